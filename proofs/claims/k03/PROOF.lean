import PyProof.Rows.All
import Wide.All
import OpenK.AllK
import Wide.FinOn
import HandS.ForMost
import HandS.Exc
import HandS.WordsExc
import HandS.Evl
import HandS.Walk
import HandS.Iter
import HandS.Wide
import HandS.IsInst
import HandS.Deep
import HandS.Star
import HandS.Style
import HandS.TupAny
import HandS.TupLen
import HandS.Flow
import KE.GoesEnum
import KE.GoesEnumKw
import HandS.NoneIn
import HandS.CallSlots
import HandS.Codes
import HandS.Zip
import HandS.DictComp
import HandS.More
import HandS.RaiseMore
import PyProof.CollectStr
import PyProof.TupleOfSeq
import HandS.ExcInit
import HandS.ExcField
import HandS.ExcIs
import HandS.ExcValue
import HandS.Nested
import KE.KExcSuper
import KE.KIsAll
import HandS.Replace
import HandS.FStr
import HandS.Set
import HandS.SetFor
import HandS.Strs
import KE.SortData
import PyProof.ListStr
import PyProof.WalksMore
import KE.LtData
import HandS.HotCalls
import OpenK.KMeth
import OpenK.KOps
import HandS.ListItems
import KE.KEqDict
import KE.DataMinMax
import HandS.Conv
import HandS.DictTup
import KE.KDictCopyH
import HandS.TupLe
import HandS.TupSets
import HandS.Defaults
import HandS.HeadEnd
import HandS.HeadHook1
import HandS.Head0
import HandS.Head1
import HandS.Head2
import HandS.Ends
import PyProof.ReprRoads
import HandS.ReplaceLit
import KE.KCallOwn
import KE.KUnpackStar
import HandS.ClsMeth
import HandS.HeadNt
import PyProof.Rows.CallKwBuiltin
import KE.DataEq
import PySem.Challenge.RW_nevermiss_k03_wrong_machines
set_option Elab.async false
set_option linter.all false
set_option maxRecDepth 100000
set_option maxHeartbeats 4000000
set_option autoImplicit false
-- N1
namespace Nv
open PySem PySem.Spec PyProof.Rows L2
open Evl (Ex)
/-- plain data -/
inductive D where
  | non | bl (b : Bool) | int (i : Int) | str (s : Str)
  | tup (l : List D) | lst (l : List D) | fz (l : List D)
  | dct (l : List (D × D)) | dtt (l : List (D × D))
  | ins (c : Str) (l : List (Str × D))
  | ty (n : String) | cls (c : Str)
  | exn (c : Str) (l : List (Str × D))
  | opq (a : Addr)
/-- the exception object at a, caught once, of the class at C, its dict at dx -/
def exE (a C : Addr) (dx : Option Addr) : HO := .ext fun h => ∃ (oe : Obj) (vs : Array Value), h.get? a = some oe ∧ Zc (.ref C) dx oe ∧ oe.data = .fields vs
/-- the module's names -/
structure Md where
  K : PySem.W.Frag
  mg : Str → Option Value
def kD : Key → D
  | .inl i => .int i
  | .inr x => .str x
def kOk : Key → Bool
  | .inl _ => true
  | .inr x => PySem.PyData.strOk x
/-- a tuple at a; an empty one may stand in the written part -/
def TupAt (M : Md) (H : Hp) (l : List D) (a : Addr) (xs : List V) : Prop := H a = some (.tup xs) ∨ (l = [] ∧ SqT M.K H a [])
mutual
/-- the value stands for the data -/
def Rep (M : Md) (H : Hp) : D → V → Prop
  | .non, v => v = .non
  | .bl b, v => v = .bl b
  | .int i, v => v = .int i
  | .str s, v => v = .str s ∧ PySem.PyData.strOk s = true
  | .tup l, v => ∃ a xs, v = .ref a ∧ TupAt M H l a xs ∧ Reps M H l xs
  | .lst l, v => ∃ a xs, v = .ref a ∧ H a = some (.lst xs) ∧ Reps M H l xs
  | .fz l, v => ∃ a xs, v = .ref a ∧ SqL M.K H a xs ∧ Reps M H l xs
  | .dct l, v => ∃ a kvs, v = .ref a ∧ (∃ od, H a = some (.frz od (.dK kvs))) ∧ RepK M H l kvs
  | .dtt l, v => ∃ a kvs, v = .ref a ∧ (∃ od, H a = some (.frz od (.dT kvs))) ∧ RepT M H l kvs
  | .ins c l, v => ∃ a C dx fs, v = .ref a ∧ M.mg c = some (.ref C) ∧ H a = some (.ins C dx fs) ∧ RepF M H l fs
  | .ty n, v => v = .ty n
  | .cls c, v => ∃ C, v = .ref C ∧ M.mg c = some (.ref C)
  | .exn c l, v => ∃ a C dx fs, v = .ref a ∧ M.mg c = some (.ref C) ∧ H a = some (exE a C dx) ∧ ((dx = none ∧ fs = []) ∨ ∃ b, dx = some b ∧ H b = some (.xd fs)) ∧ RepF M H l fs
  | .opq a, v => v = .ref a
def Reps (M : Md) (H : Hp) : List D → List V → Prop
  | [], xs => xs = []
  | d :: l, xs => ∃ v r, xs = v :: r ∧ Rep M H d v ∧ Reps M H l r
def RepK (M : Md) (H : Hp) : List (D × D) → List (Key × V) → Prop
  | [], xs => xs = []
  | (k, d) :: l, xs => ∃ q v r, xs = (q, v) :: r ∧ (k = kD q ∧ kOk q = true) ∧ Rep M H d v ∧ RepK M H l r
def RepT (M : Md) (H : Hp) : List (D × D) → List (List Key × V) → Prop
  | [], xs => xs = []
  | (k, d) :: l, xs => ∃ q v r, xs = (q, v) :: r ∧ (k = .tup (q.map kD) ∧ q.all kOk = true) ∧ Rep M H d v ∧ RepT M H l r
def RepF (M : Md) (H : Hp) : List (Str × D) → List (Str × V) → Prop
  | [], xs => xs = []
  | (f, d) :: l, xs => ∃ v r, xs = (f, v) :: r ∧ Rep M H d v ∧ RepF M H l r
end
theorem TupAt.mono {M : Md} {H H' : Hp} {l : List D} {a : Addr} {xs : List V} (h : TupAt M H l a xs) (e : Ex H H') : TupAt M H' l a xs := h.imp (e _ _) fun z => ⟨z.1, Evl.ex_t e z.2⟩
mutual
theorem Rep.mono {M : Md} {H H' : Hp} (e : Ex H H') : ∀ {d : D} {v : V}, Rep M H d v → Rep M H' d v
  | .non, _, h => h
  | .bl _, _, h => h
  | .int _, _, h => h
  | .str _, _, h => h
  | .tup l, _, h => by
    unfold Rep at h ⊢
    obtain ⟨a, xs, h1, h2, h3⟩ := h
    exact ⟨a, xs, h1, h2.mono e, Reps.mono e h3⟩
  | .lst l, _, h => by
    unfold Rep at h ⊢
    obtain ⟨a, xs, h1, h2, h3⟩ := h
    exact ⟨a, xs, h1, e _ _ h2, Reps.mono e h3⟩
  | .fz l, _, h => by
    unfold Rep at h ⊢
    obtain ⟨a, xs, h1, h2, h3⟩ := h
    exact ⟨a, xs, h1, Evl.ex_l e h2, Reps.mono e h3⟩
  | .dct l, _, h => by
    unfold Rep at h ⊢
    obtain ⟨a, kvs, h1, ⟨od, h2⟩, h3⟩ := h
    exact ⟨a, kvs, h1, ⟨od, e _ _ h2⟩, RepK.mono e h3⟩
  | .dtt l, _, h => by
    unfold Rep at h ⊢
    obtain ⟨a, kvs, h1, ⟨od, h2⟩, h3⟩ := h
    exact ⟨a, kvs, h1, ⟨od, e _ _ h2⟩, RepT.mono e h3⟩
  | .ins c l, _, h => by
    unfold Rep at h ⊢
    obtain ⟨a, C, dx, fs, h1, h2, h3, h4⟩ := h
    exact ⟨a, C, dx, fs, h1, h2, e _ _ h3, RepF.mono e h4⟩
  | .ty _, _, h => h
  | .cls _, _, h => h
  | .exn c l, _, h => by
    unfold Rep at h ⊢
    obtain ⟨a, C, dx, fs, h1, h2, h3, h4, h5⟩ := h
    exact ⟨a, C, dx, fs, h1, h2, e _ _ h3, h4.imp id fun ⟨b, x, y⟩ => ⟨b, x, e _ _ y⟩, RepF.mono e h5⟩
  | .opq _, _, h => h
theorem Reps.mono {M : Md} {H H' : Hp} (e : Ex H H') : ∀ {l : List D} {xs : List V}, Reps M H l xs → Reps M H' l xs
  | [], _, h => h
  | d :: l, _, h => by
    unfold Reps at h ⊢
    obtain ⟨v, r, h1, h2, h3⟩ := h
    exact ⟨v, r, h1, Rep.mono e h2, Reps.mono e h3⟩
theorem RepK.mono {M : Md} {H H' : Hp} (e : Ex H H') : ∀ {l : List (D × D)} {xs : List (Key × V)}, RepK M H l xs → RepK M H' l xs
  | [], _, h => h
  | (k, d) :: l, _, h => by
    unfold RepK at h ⊢
    obtain ⟨q, v, r, h1, h2, h3, h4⟩ := h
    exact ⟨q, v, r, h1, h2, Rep.mono e h3, RepK.mono e h4⟩
theorem RepT.mono {M : Md} {H H' : Hp} (e : Ex H H') : ∀ {l : List (D × D)} {xs : List (List Key × V)}, RepT M H l xs → RepT M H' l xs
  | [], _, h => h
  | (k, d) :: l, _, h => by
    unfold RepT at h ⊢
    obtain ⟨q, v, r, h1, h2, h3, h4⟩ := h
    exact ⟨q, v, r, h1, h2, Rep.mono e h3, RepT.mono e h4⟩
theorem RepF.mono {M : Md} {H H' : Hp} (e : Ex H H') : ∀ {l : List (Str × D)} {xs : List (Str × V)}, RepF M H l xs → RepF M H' l xs
  | [], _, h => h
  | (f, d) :: l, _, h => by
    unfold RepF at h ⊢
    obtain ⟨v, r, h1, h2, h3⟩ := h
    exact ⟨v, r, h1, Rep.mono e h2, RepF.mono e h3⟩
end
section
variable {M : Md} {H : Hp}
@[simp] theorem rep_non {v : V} : Rep M H .non v ↔ v = .non := by unfold Rep; exact Iff.rfl
@[simp] theorem rep_bl {b : Bool} {v : V} : Rep M H (.bl b) v ↔ v = .bl b := by unfold Rep; exact Iff.rfl
@[simp] theorem rep_int {i : Int} {v : V} : Rep M H (.int i) v ↔ v = .int i := by unfold Rep; exact Iff.rfl
theorem rep_str {x : Str} {v : V} : Rep M H (.str x) v ↔ v = .str x ∧ PySem.PyData.strOk x = true := by unfold Rep; exact Iff.rfl
theorem rep_tup {l : List D} {v : V} : Rep M H (.tup l) v ↔ ∃ a xs, v = .ref a ∧ TupAt M H l a xs ∧ Reps M H l xs := by unfold Rep; exact Iff.rfl
theorem rep_lst {l : List D} {v : V} : Rep M H (.lst l) v ↔ ∃ a xs, v = .ref a ∧ H a = some (.lst xs) ∧ Reps M H l xs := by unfold Rep; exact Iff.rfl
theorem rep_fz {l : List D} {v : V} : Rep M H (.fz l) v ↔ ∃ a xs, v = .ref a ∧ SqL M.K H a xs ∧ Reps M H l xs := by unfold Rep; exact Iff.rfl
theorem rep_dct {l : List (D × D)} {v : V} : Rep M H (.dct l) v ↔ ∃ a kvs, v = .ref a ∧ (∃ od, H a = some (.frz od (.dK kvs))) ∧ RepK M H l kvs := by unfold Rep; exact Iff.rfl
theorem rep_dtt {l : List (D × D)} {v : V} : Rep M H (.dtt l) v ↔ ∃ a kvs, v = .ref a ∧ (∃ od, H a = some (.frz od (.dT kvs))) ∧ RepT M H l kvs := by unfold Rep; exact Iff.rfl
theorem rep_ins {c : Str} {l : List (Str × D)} {v : V} : Rep M H (.ins c l) v ↔ ∃ a C dx fs, v = .ref a ∧ M.mg c = some (.ref C) ∧ H a = some (.ins C dx fs) ∧ RepF M H l fs := by unfold Rep; exact Iff.rfl
theorem rep_exn {c : Str} {l : List (Str × D)} {v : V} : Rep M H (.exn c l) v ↔ ∃ a C dx fs, v = .ref a ∧ M.mg c = some (.ref C) ∧ H a = some (exE a C dx) ∧ ((dx = none ∧ fs = []) ∨ ∃ b, dx = some b ∧ H b = some (.xd fs)) ∧ RepF M H l fs := by unfold Rep; exact Iff.rfl
@[simp] theorem reps_nil {xs : List V} : Reps M H [] xs ↔ xs = [] := by unfold Reps; exact Iff.rfl
theorem reps_cons {d : D} {l : List D} {xs : List V} : Reps M H (d :: l) xs ↔ ∃ v r, xs = v :: r ∧ Rep M H d v ∧ Reps M H l r := by rw [Reps]
theorem Reps.nil : Reps M H [] [] := by simp
theorem Reps.cons {d : D} {l : List D} {v : V} {xs : List V} (h : Rep M H d v) (t : Reps M H l xs) : Reps M H (d :: l) (v :: xs) := reps_cons.mpr ⟨v, xs, rfl, h, t⟩
theorem TupAt.sq {l : List D} {a : Addr} {xs : List V} (h : TupAt M H l a xs) (r : Reps M H l xs) : SqT M.K H a xs := by
  rcases h with h | ⟨rfl, h⟩
  · exact SqT.of h
  · cases reps_nil.mp r; exact h
theorem Reps.length : ∀ {l : List D} {xs : List V}, Reps M H l xs → xs.length = l.length
  | [], _, h => by simp at h; subst h; rfl
  | d :: l, _, h => by
    obtain ⟨v, r, rfl, _, h3⟩ := reps_cons.mp h
    simp [Reps.length h3]
theorem Reps.get : ∀ {l : List D} {xs : List V} {i : Nat} {d : D}, Reps M H l xs → l[i]? = some d → ∃ v, xs[i]? = some v ∧ Rep M H d v
  | [], _, _, _, _, e => by simp at e
  | d :: l, _, 0, _, h, e => by
    obtain ⟨v, r, rfl, h2, h3⟩ := reps_cons.mp h
    simp at e; subst e
    exact ⟨v, rfl, h2⟩
  | d :: l, _, i + 1, _, h, e => by
    obtain ⟨v, r, rfl, h2, h3⟩ := reps_cons.mp h
    obtain ⟨w, h4, h5⟩ := Reps.get (i := i) h3 (by simpa using e)
    exact ⟨w, by simpa using h4, h5⟩
theorem Reps.getv : ∀ {l : List D} {xs : List V} {i : Nat} {v : V}, Reps M H l xs → xs[i]? = some v → ∃ d, l[i]? = some d ∧ Rep M H d v := fun {l xs i v} h e => by
  have hl := h.length
  have hi : i < l.length := by rw [← hl]; exact (List.getElem?_eq_some_iff.mp e).1
  obtain ⟨w, h1, h2⟩ := h.get (List.getElem?_eq_getElem hi)
  rw [e] at h1
  cases h1
  exact ⟨_, List.getElem?_eq_getElem hi, h2⟩
theorem Reps.append : ∀ {l m : List D} {xs ys : List V}, Reps M H l xs → Reps M H m ys → Reps M H (l ++ m) (xs ++ ys)
  | [], _, _, _, h, t => by simp at h; subst h; exact t
  | d :: l, _, _, _, h, t => by
    obtain ⟨v, r, rfl, h2, h3⟩ := reps_cons.mp h
    exact Reps.cons h2 (Reps.append h3 t)
theorem Reps.snoc {l : List D} {xs : List V} {d : D} {v : V} (h : Reps M H l xs) (t : Rep M H d v) : Reps M H (l ++ [d]) (xs ++ [v]) := h.append (Reps.cons t Reps.nil)
theorem Reps.take : ∀ {l : List D} {xs : List V} (n : Nat), Reps M H l xs → Reps M H (l.take n) (xs.take n)
  | _, _, 0, _ => by simp
  | [], _, n + 1, h => by simp at h; subst h; simp
  | d :: l, _, n + 1, h => by
    obtain ⟨v, r, rfl, h2, h3⟩ := reps_cons.mp h
    exact Reps.cons h2 (Reps.take n h3)
theorem Reps.drop : ∀ {l : List D} {xs : List V} (n : Nat), Reps M H l xs → Reps M H (l.drop n) (xs.drop n)
  | _, _, 0, h => h
  | [], _, n + 1, h => by simp at h; subst h; simp
  | d :: l, _, n + 1, h => by
    obtain ⟨v, r, rfl, h2, h3⟩ := reps_cons.mp h
    exact Reps.drop n h3
theorem Reps.reverse : ∀ {l : List D} {xs : List V}, Reps M H l xs → Reps M H l.reverse xs.reverse
  | [], _, h => by simp at h; subst h; simp
  | d :: l, _, h => by
    obtain ⟨v, r, rfl, h2, h3⟩ := reps_cons.mp h
    rw [List.reverse_cons, List.reverse_cons]
    exact (Reps.reverse h3).snoc h2
theorem Reps.ints : ∀ {ns : List Int} {xs : List V}, Reps M H (ns.map .int) xs → xs = ns.map V.int
  | [], _, h => by simp at h; subst h; rfl
  | n :: ns, _, h => by
    obtain ⟨v, r, rfl, h2, h3⟩ := reps_cons.mp h
    simp at h2; subst h2
    rw [Reps.ints h3]; rfl
theorem Reps.strs : ∀ {ns : List Str} {xs : List V}, Reps M H (ns.map .str) xs → xs = ns.map V.str ∧ ns.all PySem.PyData.strOk = true
  | [], _, h => by simp at h; subst h; exact ⟨rfl, rfl⟩
  | n :: ns, _, h => by
    obtain ⟨v, r, rfl, h2, h3⟩ := reps_cons.mp h
    obtain ⟨rfl, _⟩ := rep_str.mp h2
    obtain ⟨h4, h5⟩ := Reps.strs h3
    exact ⟨by rw [h4]; rfl, by rw [List.all_cons, Bool.and_eq_true]; exact ⟨(rep_str.mp h2).2, h5⟩⟩
theorem Reps.mkStrs : ∀ {ns : List Str}, ns.all PySem.PyData.strOk = true → Reps M H (ns.map .str) (ns.map V.str)
  | [], _ => Reps.nil
  | n :: ns, h => by
    rw [List.all_cons, Bool.and_eq_true] at h
    exact Reps.cons (rep_str.mpr ⟨rfl, h.1⟩) (Reps.mkStrs h.2)
theorem Reps.mkInts : ∀ {ns : List Int}, Reps M H (ns.map .int) (ns.map V.int)
  | [] => Reps.nil
  | n :: ns => Reps.cons (rep_int.mpr rfl) Reps.mkInts
end
/-- an object of the def's own: nobody else holds it -/
inductive O where
  | lst (l : List D) | dct (l : List (D × D)) | dtt (l : List (D × D)) | ins (c : Str) (l : List (Str × D))
def O.d : O → D
  | .lst l => .lst l
  | .dct l => .dct l
  | .dtt l => .dtt l
  | .ins c l => .ins c l
inductive Slot where
  | un | dat (d : D) | own (t : Option Nat) (o : O)
abbrev Ev := List Slot
inductive AV where
  | dat (d : D) | own (o : O)
def AV.d : AV → D
  | .dat d => d
  | .own o => o.d
/-- the object at a stands in H, what it holds in F -/
def ORep (M : Md) (F H : Hp) (a : Addr) : O → Prop
  | .lst l => ∃ xs, H a = some (.lst xs) ∧ Reps M F l xs
  | .dct l => ∃ kvs, H a = some (.dK kvs) ∧ RepK M F l kvs
  | .dtt l => ∃ kvs, H a = some (.dT kvs) ∧ RepT M F l kvs
  | .ins c l => ∃ C dx fs, M.mg c = some (.ref C) ∧ H a = some (.ins C dx fs) ∧ RepF M F l fs
theorem ORep.some {M : Md} {F H : Hp} {a : Addr} {o : O} (h : ORep M F H a o) : ∃ u, H a = some u := by
  cases o with
  | lst l => obtain ⟨xs, h, _⟩ := h; exact ⟨_, h⟩
  | dct l => obtain ⟨xs, h, _⟩ := h; exact ⟨_, h⟩
  | dtt l => obtain ⟨xs, h, _⟩ := h; exact ⟨_, h⟩
  | ins c l => obtain ⟨C, dx, fs, _, h, _⟩ := h; exact ⟨_, h⟩
/-- an object that is no tuple -/
def NT : HO → Prop
  | .tup _ => False
  | _ => True
theorem ORep.nt {M : Md} {F H : Hp} {a : Addr} {o : O} (h : ORep M F H a o) {u : HO} (hu : H a = Option.some u) : NT u := by
  cases o with
  | lst l => obtain ⟨xs, h, _⟩ := h; rw [hu] at h; cases h; trivial
  | dct l => obtain ⟨xs, h, _⟩ := h; rw [hu] at h; cases h; trivial
  | dtt l => obtain ⟨xs, h, _⟩ := h; rw [hu] at h; cases h; trivial
  | ins c l => obtain ⟨C, dx, fs, _, h, _⟩ := h; rw [hu] at h; cases h; trivial
theorem ORep.mono {M : Md} {F F' H H' : Hp} {a : Addr} {o : O} (h : ORep M F H a o) (e : Ex F F') (e2 : H' a = H a) : ORep M F' H' a o := by
  cases o with
  | lst l => obtain ⟨xs, h, r⟩ := h; exact ⟨xs, e2.trans h, r.mono e⟩
  | dct l => obtain ⟨xs, h, r⟩ := h; exact ⟨xs, e2.trans h, r.mono e⟩
  | dtt l => obtain ⟨xs, h, r⟩ := h; exact ⟨xs, e2.trans h, r.mono e⟩
  | ins c l => obtain ⟨C, dx, fs, h0, h, r⟩ := h; exact ⟨C, dx, fs, h0, e2.trans h, r.mono e⟩
/-- what is locked when it becomes data -/
def O.isD : O → Bool
  | .dct _ => true
  | .dtt _ => true
  | _ => false
theorem ORep.rep {M : Md} {F H : Hp} {a : Addr} {o : O} (h : ORep M F H a o) (e : Ex F H) (nd : o.isD = false) : Rep M H o.d (.ref a) := by
  cases o with
  | lst l => obtain ⟨xs, h, r⟩ := h; exact rep_lst.mpr ⟨a, xs, rfl, h, r.mono e⟩
  | dct l => cases nd
  | dtt l => cases nd
  | ins c l => obtain ⟨C, dx, fs, h0, h, r⟩ := h; exact rep_ins.mpr ⟨a, C, dx, fs, rfl, h0, h, r.mono e⟩
theorem ORep.repL {M : Md} {F H : Hp} {a : Addr} {o : O} (h : ORep M F H a o) (nd : o.isD = true) (nf : F a = none) : ∃ u, H a = Option.some u ∧ Mut (Option.some u) ∧ ∀ od, Rep M (upd F a (.frz od u)) o.d (.ref a) := by
  cases o with
  | lst l => cases nd
  | dct l => obtain ⟨xs, h, r⟩ := h; exact ⟨_, h, trivial, fun od => rep_dct.mpr ⟨a, xs, rfl, ⟨od, upd_same⟩, r.mono (Evl.Ex.new nf)⟩⟩
  | dtt l => obtain ⟨xs, h, r⟩ := h; exact ⟨_, h, trivial, fun od => rep_dtt.mpr ⟨a, xs, rfl, ⟨od, upd_same⟩, r.mono (Evl.Ex.new nf)⟩⟩
  | ins c l => cases nd
/-- the top node is read in H, what it holds in F -/
def Rep1 (M : Md) (F H : Hp) : D → V → Prop
  | .lst l, v => ∃ a xs, v = .ref a ∧ H a = some (.lst xs) ∧ Reps M F l xs
  | .dct l, v => ∃ a kvs, v = .ref a ∧ Rd H a (.dK kvs) ∧ RepK M F l kvs
  | .dtt l, v => ∃ a kvs, v = .ref a ∧ Rd H a (.dT kvs) ∧ RepT M F l kvs
  | .ins c l, v => ∃ a C dx fs, v = .ref a ∧ M.mg c = some (.ref C) ∧ H a = some (.ins C dx fs) ∧ RepF M F l fs
  | d, v => Rep M F d v
theorem Rep.one {M : Md} {F H : Hp} {d : D} {v : V} (h : Rep M F d v) (e : Ex F H) : Rep1 M F H d v := by
  cases d with
  | tup l => exact h
  | fz l => exact h
  | lst l => obtain ⟨a, xs, h1, h2, h3⟩ := rep_lst.mp h; exact ⟨a, xs, h1, e _ _ h2, h3⟩
  | dct l => obtain ⟨a, xs, h1, ⟨od, h2⟩, h3⟩ := rep_dct.mp h; exact ⟨a, xs, h1, .inr ⟨od, e _ _ h2⟩, h3⟩
  | dtt l => obtain ⟨a, xs, h1, ⟨od, h2⟩, h3⟩ := rep_dtt.mp h; exact ⟨a, xs, h1, .inr ⟨od, e _ _ h2⟩, h3⟩
  | ins c l => obtain ⟨a, C, dx, fs, h1, h2, h3, h4⟩ := rep_ins.mp h; exact ⟨a, C, dx, fs, h1, h2, e _ _ h3, h4⟩
  | non => exact h
  | bl b => exact h
  | int i => exact h
  | str s => exact h
  | ty n => exact h
  | cls c => exact h
  | exn c l => exact h
  | opq w => exact h
theorem ORep.one {M : Md} {F H : Hp} {a : Addr} {o : O} (h : ORep M F H a o) : Rep1 M F H o.d (.ref a) := by
  cases o with
  | lst l => obtain ⟨xs, h, r⟩ := h; exact ⟨a, xs, rfl, h, r⟩
  | dct l => obtain ⟨xs, h, r⟩ := h; exact ⟨a, xs, rfl, .inl h, r⟩
  | dtt l => obtain ⟨xs, h, r⟩ := h; exact ⟨a, xs, rfl, .inl h, r⟩
  | ins c l => obtain ⟨C, dx, fs, h0, h, r⟩ := h; exact ⟨a, C, dx, fs, rfl, h0, h, r⟩
def D.isD : D → Bool
  | .dct _ => true
  | .dtt _ => true
  | _ => false
theorem Rep1.rep {M : Md} {F H : Hp} {d : D} {v : V} (h : Rep1 M F H d v) (e : Ex F H) (nd : d.isD = false) : Rep M H d v := by
  cases d with
  | tup l => exact Rep.mono e h
  | fz l => exact Rep.mono e h
  | lst l => obtain ⟨a, xs, h1, h2, h3⟩ := h; exact rep_lst.mpr ⟨a, xs, h1, h2, h3.mono e⟩
  | dct l => cases nd
  | dtt l => cases nd
  | ins c l => obtain ⟨a, C, dx, fs, h1, h2, h3, h4⟩ := h; exact rep_ins.mpr ⟨a, C, dx, fs, h1, h2, h3, h4.mono e⟩
  | non => exact Rep.mono e h
  | bl b => exact Rep.mono e h
  | int i => exact Rep.mono e h
  | str s => exact Rep.mono e h
  | ty n => exact h
  | cls c => exact h
  | exn c l => exact Rep.mono e h
  | opq w => exact h
/-- the addresses of the own objects -/
def own (σ : L2.St) (Γ : Ev) (a : Addr) : Prop := ∃ (i : Nat) (t : Option Nat) (o : O), Γ[i]? = some (.own t o) ∧ σ[i]? = some (some (.ref a))
def SRel (M : Md) (σ0 : L2.St) (F H : Hp) (s : Option V) : Slot → Prop
  | .un => True
  | .dat d => ∃ v, s = some v ∧ Rep M F d v
  | .own t o => ∃ a, s = some (.ref a) ∧ F a = none ∧ ORep M F H a o ∧ ∀ k : Nat, t = some k → σ0[k]? = some (some (.ref a))
structure Rel (M : Md) (σ0 : L2.St) (F H : Hp) (σ : L2.St) (Γ : Ev) : Prop where
  sub : Ex F H
  len : σ.length = Γ.length
  slot : ∀ (i : Nat) (s : Option V) (g : Slot), σ[i]? = some s → Γ[i]? = some g → SRel M σ0 F H s g
  sep : ∀ (i j : Nat) (t : Option Nat) (o : O) (t' : Option Nat) (o' : O) (a : Addr), Γ[i]? = some (.own t o) → Γ[j]? = some (.own t' o') → σ[i]? = some (some (.ref a)) → σ[j]? = some (some (.ref a)) → i = j
structure Ext (A : Addr → Prop) (F H : Hp) (A' : Addr → Prop) (F' H' : Hp) : Prop where
  ff : Ex F F'
  hh : ∀ b o, ¬ A b → H b = some o → H' b = some o
  fn : ∀ b o, ¬ A b → H b = some o → F b = none → NT o → F' b = none
  aa : ∀ b, A' b → A b ∨ H b = none
theorem Ext.refl {A : Addr → Prop} {F H : Hp} : Ext A F H A F H := ⟨Evl.Ex.refl _, fun _ _ _ h => h, fun _ _ _ _ h _ => h, fun _ h => .inl h⟩
theorem Ext.trans {A A' A'' : Addr → Prop} {F H F' H' F'' H'' : Hp} (a : Ext A F H A' F' H') (b : Ext A' F' H' A'' F'' H'') : Ext A F H A'' F'' H'' := by
  have na : ∀ x o, ¬ A x → H x = some o → ¬ A' x := fun x o n h z => by
    rcases a.aa x z with q | q
    · exact n q
    · rw [h] at q; cases q
  refine ⟨a.ff.trans b.ff, fun x o n h => b.hh x o (na x o n h) (a.hh x o n h), fun x o n h hf nt => b.fn x o (na x o n h) (a.hh x o n h) (a.fn x o n h hf nt) nt, fun x z => ?_⟩
  rcases b.aa x z with q | q
  · exact a.aa x q
  · by_cases n : A x
    · exact .inl n
    · cases e : H x with
      | none => exact .inr rfl
      | some o => rw [a.hh x o n e] at q; cases q
/-- a new object is laid, the frame as it was -/
theorem Ext.new {A : Addr → Prop} {F H : Hp} {p : Addr} {o : HO} (n : H p = none) : Ext A F H A F (upd H p o) :=
  ⟨Evl.Ex.refl _, fun b u _ h => by rw [upd_ne (ne_of_none h n)]; exact h, fun _ _ _ _ h _ => h, fun _ h => .inl h⟩
theorem Ext.newF {A : Addr → Prop} {F H : Hp} {p : Addr} {o : HO} (n : H p = none) (nf : F p = none) : Ext A F H A (upd F p o) (upd H p o) :=
  ⟨Evl.Ex.new nf, fun b u _ h => by rw [upd_ne (ne_of_none h n)]; exact h, fun b u _ h hf _ => by rw [upd_ne (ne_of_none h n)]; exact hf, fun _ h => .inl h⟩
theorem Ext.sub {A B : Addr → Prop} {F H F' H' : Hp} (e : Ext B F H B F' H') (h : ∀ b, B b → A b) : Ext A F H A F' H' :=
  ⟨e.ff, fun b o n => e.hh b o fun z => n (h b z), fun b o n => e.fn b o fun z => n (h b z), fun _ z => .inl z⟩
/-- a result: data, or a new own object -/
def AVR (M : Md) (A0 : Addr → Prop) (H0 F H : Hp) (A : Addr → Prop) (v : V) : AV → Prop
  | .dat d => Rep M F d v
  | .own o => ∃ a, v = .ref a ∧ F a = none ∧ ¬ A a ∧ ORep M F H a o ∧ (A0 a ∨ H0 a = none)
section
variable {M : Md} {σ0 : L2.St} {F H F' H' : Hp} {σ : L2.St} {Γ : Ev}
theorem Rel.fr (r : Rel M σ0 F H σ Γ) {p : Addr} (h : H p = none) : F p = none := by
  cases e : F p with
  | none => rfl
  | some o => rw [r.sub _ _ e] at h; cases h
theorem Rel.get (r : Rel M σ0 F H σ Γ) {i : Nat} {g : Slot} (h : Γ[i]? = some g) : ∃ s, σ[i]? = some s ∧ SRel M σ0 F H s g := by
  have hi : i < σ.length := by rw [r.len]; exact (List.getElem?_eq_some_iff.mp h).1
  exact ⟨_, List.getElem?_eq_getElem hi, r.slot i _ g (List.getElem?_eq_getElem hi) h⟩
theorem Rel.dat (r : Rel M σ0 F H σ Γ) {i : Nat} {d : D} (h : Γ[i]? = some (.dat d)) : ∃ v, σ[i]? = some (some v) ∧ Rep M F d v := by
  obtain ⟨s, h1, v, rfl, h2⟩ := r.get h
  exact ⟨v, h1, h2⟩
theorem Rel.own (r : Rel M σ0 F H σ Γ) {i : Nat} {t : Option Nat} {o : O} (h : Γ[i]? = some (Slot.own t o)) : ∃ a, σ[i]? = some (some (.ref a)) ∧ F a = none ∧ ORep M F H a o ∧ (∀ k : Nat, t = some k → σ0[k]? = some (some (.ref a))) ∧ Nv.own σ Γ a := by
  obtain ⟨s, h1, a, rfl, h2, h3, h4⟩ := r.get h
  exact ⟨a, h1, h2, h3, h4, i, t, o, h, h1⟩
/-- the own addresses stand in the heap, not in the frame -/
theorem Rel.ownF (r : Rel M σ0 F H σ Γ) {a : Addr} (h : Nv.own σ Γ a) : F a = Option.none ∧ ∃ u, H a = some u := by
  obtain ⟨i, t, o, h1, h2⟩ := h
  obtain ⟨b, h3, h4, h5, _⟩ := r.own h1
  rw [h2] at h3; cases h3
  exact ⟨h4, h5.some⟩
theorem Rel.ownNT (r : Rel M σ0 F H σ Γ) {a : Addr} (h : Nv.own σ Γ a) {u : HO} (hu : H a = some u) : NT u := by
  obtain ⟨i, t, o, h1, h2⟩ := h
  obtain ⟨b, h3, h4, h5, _⟩ := r.own h1
  rw [h2] at h3; cases h3
  exact h5.nt hu
/-- all own objects stay, the rest grows -/
theorem Rel.grow (r : Rel M σ0 F H σ Γ) (e : Ex F F') (s : Ex F' H') (k : ∀ a, Nv.own σ Γ a → H' a = H a ∧ F' a = Option.none) : Rel M σ0 F' H' σ Γ := by
  refine ⟨s, r.len, fun i x g h1 h2 => ?_, r.sep⟩
  have q := r.slot i x g h1 h2
  cases g with
  | un => trivial
  | dat d => obtain ⟨v, e1, e2⟩ := q; exact ⟨v, e1, e2.mono e⟩
  | own t o =>
    obtain ⟨a, e1, e2, e3, e4⟩ := q
    subst e1
    obtain ⟨k1, k2⟩ := k a ⟨i, t, o, h2, h1⟩
    exact ⟨a, rfl, k2, e3.mono e k1, e4⟩
theorem Rel.new {p : Addr} {o : HO} (r : Rel M σ0 F H σ Γ) (n : H p = Option.none) : Rel M σ0 F (upd H p o) σ Γ :=
  r.grow (Evl.Ex.refl _) (r.sub.trans (Evl.Ex.new n)) fun a h => by
    obtain ⟨h1, u, h2⟩ := r.ownF h
    exact ⟨upd_ne (ne_of_none h2 n), h1⟩
theorem Rel.newF {p : Addr} {o : HO} (r : Rel M σ0 F H σ Γ) (n : H p = Option.none) : Rel M σ0 (upd F p o) (upd H p o) σ Γ :=
  r.grow (Evl.Ex.new (r.fr n)) (fun b u h => by
    by_cases z : b = p
    · subst z; rw [upd_same] at h ⊢; exact h
    · rw [upd_ne z] at h ⊢; exact r.sub _ _ h) fun a h => by
    obtain ⟨h1, u, h2⟩ := r.ownF h
    exact ⟨upd_ne (ne_of_none h2 n), by rw [upd_ne (ne_of_none h2 n)]; exact h1⟩
/-- an object that is not the slots' own goes into the frame -/
theorem Rel.freeze {p : Addr} {o : HO} (r : Rel M σ0 F H σ Γ) (h : H p = some o) (nf : F p = Option.none) (no : ¬ Nv.own σ Γ p) : Rel M σ0 (upd F p o) H σ Γ :=
  r.grow (Evl.Ex.new nf) (fun b u e => by
    by_cases z : b = p
    · subst z; rw [upd_same] at e; cases e; exact h
    · rw [upd_ne z] at e; exact r.sub _ _ e) fun a q => ⟨rfl, by
      rw [upd_ne (show a ≠ p from fun z => no (z ▸ q))]
      exact (r.ownF q).1⟩
/-- .. and is locked -/
theorem Rel.freezeL {p : Addr} {o o' : HO} (r : Rel M σ0 F H σ Γ) (h : H p = some o) (nf : F p = Option.none) (no : ¬ Nv.own σ Γ p) : Rel M σ0 (upd F p o') (upd H p o') σ Γ :=
  r.grow (Evl.Ex.new nf) (fun b u e => by
    by_cases z : b = p
    · subst z; rw [upd_same] at e ⊢; exact e
    · rw [upd_ne z] at e ⊢; exact r.sub _ _ e) fun a q => by
      have np : a ≠ p := fun z => no (z ▸ q)
      rw [upd_ne np, upd_ne np]
      exact ⟨rfl, (r.ownF q).1⟩
end
end Nv
-- N2
namespace Nv
open PySem PySem.Spec PyProof.Rows L2
open Evl (Ex)
inductive Rs (α : Type) where
  | ok (a : α) (Γ : Ev) | ex (c : Str) (l : List (Str × D)) (Γ : Ev) | bad
def Rs.bind {α β : Type} (r : Rs α) (f : α → Ev → Rs β) : Rs β :=
  match r with
  | .ok a Γ => f a Γ
  | .ex c l Γ => .ex c l Γ
  | .bad => .bad
inductive OV where
  | dat (d : D) | slot (i : Nat)
def look (Γ : Ev) (i : Nat) : Option D :=
  match Γ[i]? with
  | some (.dat d) => some d
  | some (.own _ o) => some o.d
  | _ => none
def OV.get (Γ : Ev) : OV → Option D
  | .dat d => some d
  | .slot i => look Γ i
def gets (Γ : Ev) : List OV → Option (List D)
  | [] => some []
  | o :: r => match o.get Γ, gets Γ r with
    | some d, some ds => some (d :: ds)
    | _, _ => none
/-- an exception's own dict -/
def XR (M : Md) (F : Hp) (l : List (Str × D)) (dx : Option Addr) : Prop := (l = [] ∧ dx = none) ∨ ∃ a fs, dx = some a ∧ F a = some (.xd fs) ∧ RepF M F l fs
/-- the context: the module, the arguments, the wish about exceptions -/
structure Cf where
  M : Md
  σ0 : L2.St
  W : WX
/-- relations of results: the slots, the state ahead, the state behind -/
abbrev VRel (α β : Type) := L2.St → Hp → Hp → Ev → Hp → Hp → Ev → β → α → Prop
def Po {α β : Type} (c : Cf) (R : VRel α β) (σ : L2.St) (F H : Hp) (Γ : Ev) (r : Rs α) (Q : β → Hp → Prop) : Prop :=
  match r with
  | .ok a Γ' => ∀ F' H' v, Rel c.M c.σ0 F' H' σ Γ' → Ext (own σ Γ) F H (own σ Γ') F' H' → R σ F H Γ F' H' Γ' v a → Q v H'
  | .ex n l Γ' => ∀ F' H' C dx, Rel c.M c.σ0 F' H' σ Γ' → Ext (own σ Γ) F H (own σ Γ') F' H' → c.M.mg n = some (.ref C) → XR c.M F' l dx → c.W (.ref C) dx σ H'
  | .bad => False
def tR {α β : Type} (c : Cf) (R : VRel α β) (f : Ev → Rs α) : L2.St → Hp → (β → Hp → Prop) → Prop := fun σ H Q => ∃ F Γ, Rel c.M c.σ0 F H σ Γ ∧ Po c R σ F H Γ (f Γ) Q
def vrD (M : Md) : VRel D V := fun _ _ _ _ F' _ _ v d => Rep M F' d v
def vrO (M : Md) : VRel AV V := fun σ _ H Γ F' H' Γ' v av => AVR M (own σ Γ) H F' H' (own σ Γ') v av
def ovR (M : Md) (σ : L2.St) (F : Hp) (v : V) : OV → Prop
  | .dat d => Rep M F d v
  | .slot i => σ[i]? = some (some v)
def ovsR (M : Md) (σ : L2.St) (F : Hp) : List V → List OV → Prop
  | [], [] => True
  | v :: vs, o :: os => ovR M σ F v o ∧ ovsR M σ F vs os
  | _, _ => False
def vrB (M : Md) : VRel OV V := fun σ _ _ _ F' _ _ v o => ovR M σ F' v o
def vrA (M : Md) : VRel (List OV) (List V) := fun σ _ _ _ F' _ _ vs os => ovsR M σ F' vs os
def vrT : VRel Bool Bool := fun _ _ _ _ _ _ _ b c => b = c
/-- a later start does for an earlier one -/
def Shifts {α β : Type} (R : VRel α β) : Prop := ∀ σ F H Γ F1 H1 Γ1 F' H' Γ' v a, Ext (own σ Γ) F H (own σ Γ1) F1 H1 → R σ F1 H1 Γ1 F' H' Γ' v a → R σ F H Γ F' H' Γ' v a
theorem sh_A {M : Md} : Shifts (vrA M) := fun _ _ _ _ _ _ _ _ _ _ _ _ _ h => h
theorem sh_T : Shifts vrT := fun _ _ _ _ _ _ _ _ _ _ _ _ _ h => h
theorem Ext.back {A A' : Addr → Prop} {F H F' H' : Hp} (e : Ext A F H A' F' H') {a : Addr} (h : A' a ∨ H' a = none) : A a ∨ H a = none := by
  rcases h with h | h
  · exact e.aa a h
  · by_cases n : A a
    · exact .inl n
    · cases q : H a with
      | none => exact .inr rfl
      | some o => rw [e.hh a o n q] at h; cases h
theorem sh_O {M : Md} : Shifts (vrO M) := fun σ F H Γ F1 H1 Γ1 F' H' Γ' v a e h => by
  cases a with
  | dat d => exact h
  | own o =>
    obtain ⟨p, h1, h2, h3, h4, h5⟩ := h
    exact ⟨p, h1, h2, h3, h4, e.back h5⟩
section
variable {c : Cf} {α β γ δ : Type} {R : VRel α β} {S : VRel γ δ} {σ : L2.St} {F H F1 H1 : Hp} {Γ Γ1 : Ev} {Q : δ → Hp → Prop}
theorem Po.shift (hs : Shifts S) {r : Rs γ} (e : Ext (own σ Γ) F H (own σ Γ1) F1 H1) (h : Po c S σ F H Γ r Q) : Po c S σ F1 H1 Γ1 r Q := by
  cases r with
  | ok a Γ' => exact fun F' H' v r1 e1 v1 => h F' H' v r1 (e.trans e1) (hs _ _ _ _ _ _ _ _ _ _ _ _ e v1)
  | ex n l Γ' => exact fun F' H' C dx r1 e1 m x => h F' H' C dx r1 (e.trans e1) m x
  | bad => exact h
/-- a run, then what follows -/
theorem Po.bind {r : Rs α} {k : α → Ev → Rs γ} (h : Po c S σ F H Γ (r.bind k) Q) :
    Po c R σ F H Γ r (fun v H' => ∃ F' Γ' a, Rel c.M c.σ0 F' H' σ Γ' ∧ Ext (own σ Γ) F H (own σ Γ') F' H' ∧ R σ F H Γ F' H' Γ' v a ∧ Po c S σ F H Γ (k a Γ') Q) := by
  cases r with
  | ok a Γ' => exact fun F' H' v r1 e1 v1 => ⟨F', Γ', a, r1, e1, v1, h⟩
  | ex n l Γ' => exact h
  | bad => exact h
theorem Po.imp {r : Rs α} {P P' : β → Hp → Prop} (h : Po c R σ F H Γ r P) (i : ∀ v H', P v H' → P' v H') : Po c R σ F H Γ r P' := by
  cases r with
  | ok a Γ' => exact fun F' H' v r1 e1 v1 => i _ _ (h F' H' v r1 e1 v1)
  | ex n l Γ' => exact h
  | bad => exact h
end
abbrev DE (X : Cx) (c : Cf) (e : Expr) (f : Ev → Rs D) : Prop := PE X e (tR c (vrD c.M) f)
abbrev DO (X : Cx) (c : Cf) (e : Expr) (f : Ev → Rs AV) : Prop := PE X e (tR c (vrO c.M) f)
abbrev DB (X : Cx) (c : Cf) (e : Expr) (f : Ev → Rs OV) : Prop := PE X e (tR c (vrB c.M) f)
abbrev DA (X : Cx) (c : Cf) (es : List Expr) (f : Ev → Rs (List OV)) : Prop := PA X es (tR c (vrA c.M) f)
abbrev DT (X : Cx) (c : Cf) (e : Expr) (f : Ev → Rs Bool) : Prop := PT X e (tR c vrT f)
theorem PE.of {X : Cx} {e : Expr} {t t' : TE} (h : PE X e t) (i : ∀ σ H Q, t' σ H Q → t σ H Q) : PE X e t' := ⟨fun pins s σ H Q I q => h.run pins s σ H Q I (i σ H Q q)⟩
theorem PT.of {X : Cx} {e : Expr} {t t' : TT} (h : PT X e t) (i : ∀ σ H Q, t' σ H Q → t σ H Q) : PT X e t' := ⟨fun pins s σ H Q I q => h.run pins s σ H Q I (i σ H Q q)⟩
theorem PA.of {X : Cx} {e : List Expr} {t t' : TA} (h : PA X e t) (i : ∀ σ H Q, t' σ H Q → t σ H Q) : PA X e t' := ⟨fun pos pins s σ H Q I q => h.run pos pins s σ H Q I (i σ H Q q)⟩
section
variable {X : Cx} {c : Cf} {e : Expr} {es : List Expr}
/-- the frame takes a new own object up: it is data now -/
def AV.frz (r : Rs AV) : Rs D := r.bind fun av Γ => .ok av.d Γ
/-- what is made is perhaps locked -/
def LkQ {β : Type} (Q : β → Hp → Prop) : β → Hp → Prop := fun v H' => Q v H' ∨ ∃ d u, H' d = some u ∧ Mut (some u) ∧ ∀ od, Q v (upd H' d (.frz od u))
theorem PE.lk {t t' : TE} (h : PE X e t) (i : ∀ σ H Q, t' σ H Q → t σ H (LkQ Q)) : PE X e t' := ⟨fun pins s σ H Q I q => thn (h.run pins s σ H _ I (i σ H Q q)) fun v s1 ⟨x, H1, I1, r1, q1⟩ => by
  rcases q1 with q1 | ⟨d, u, hd, mu, q1⟩
  · exact ⟨x, H1, I1, r1, q1⟩
  · obtain ⟨od, I2⟩ := I1.lock hd mu
    exact ⟨x, _, I2, r1, q1 od⟩⟩
theorem avr_frz {M : Md} {σ0 σ : L2.St} {F H F' H' : Hp} {Γ Γ' : Ev} {v : V} {av : AV} {Q : VK} (r : Rel M σ0 F' H' σ Γ') (e : Ext (own σ Γ) F H (own σ Γ') F' H') (a : AVR M (own σ Γ) H F' H' (own σ Γ') v av)
    (q : ∀ F2 H2, Rel M σ0 F2 H2 σ Γ' → Ext (own σ Γ) F H (own σ Γ') F2 H2 → Rep M F2 av.d v → Q v H2) : LkQ Q v H' := by
  cases av with
  | dat d => exact .inl (q F' H' r e a)
  | own o =>
    obtain ⟨p, rfl, h1, h2, h3, h4⟩ := a
    have np : ∀ {b : Addr} {x : HO}, ¬ own σ Γ b → H b = some x → b ≠ p := fun {b x} n hb z => by
      subst z
      rcases h4 with h4 | h4
      · exact n h4
      · rw [hb] at h4; cases h4
    cases hd : o.isD with
    | false =>
      obtain ⟨u, hu⟩ := h3.some
      refine .inl (q (upd F' p u) H' (r.freeze hu h1 h2) ⟨e.ff.trans (Evl.Ex.new h1), e.hh, fun b x n q f nt => ?_, e.aa⟩ ?_)
      · rw [upd_ne (np n q)]
        exact e.fn b x n q f nt
      · have hh : (upd F' p u) p = H' p := by rw [upd_same, hu]
        exact (h3.mono (H' := upd F' p u) (Evl.Ex.new h1) hh).rep (fun _ _ h => h) hd
    | true =>
      obtain ⟨u, hu, mu, hr⟩ := h3.repL hd h1
      refine .inr ⟨p, u, hu, mu, fun od => q (upd F' p (.frz od u)) (upd H' p (.frz od u)) (r.freezeL hu h1 h2) ⟨e.ff.trans (Evl.Ex.new h1), fun b x n q => ?_, fun b x n q f nt => ?_, e.aa⟩ (hr od)⟩
      · rw [upd_ne (np n q)]
        exact e.hh b x n q
      · rw [upd_ne (np n q)]
        exact e.fn b x n q f nt
theorem de_frz {f : Ev → Rs AV} (h : DO X c e f) : DE X c e (fun Γ => AV.frz (f Γ)) := by
  refine PE.lk h fun σ H Q ⟨F, Γ, r, q⟩ => ⟨F, Γ, r, ?_⟩
  refine (Po.bind (R := vrO c.M) q).imp fun v H' ⟨F', Γ', av, r1, e1, a1, q1⟩ => ?_
  exact avr_frz r1 e1 a1 fun F2 H2 r2 e2 a2 => q1 F2 H2 v r2 e2 a2
end
def noA : Addr → Prop := fun _ => False
def reps1 (M : Md) (F H : Hp) : List D → List V → Prop
  | [], [] => True
  | d :: ds, v :: vs => Rep1 M F H d v ∧ reps1 M F H ds vs
  | _, _ => False
/-- a result of an operation: data, or a new own object -/
def AVN (M : Md) (H F' H' : Hp) (v : V) : AV → Prop
  | .dat d => Rep M F' d v
  | .own o => ∃ a, v = .ref a ∧ H a = none ∧ F' a = none ∧ ORep M F' H' a o
/-- what an operation on values asks is met by data, and gives what g says -/
def OpS (M : Md) (r : List V → Hp → VK → Prop) (g : List D → Option AV) : Prop :=
  ∀ F H vs ds av Q, Ex F H → reps1 M F H ds vs → g ds = some av → (∀ F' H' v, Ext noA F H noA F' H' → Ex F' H' → AVN M H F' H' v av → Q v H') → r vs H Q
section
variable {c : Cf} {σ : L2.St} {F H : Hp} {Γ : Ev}
theorem Rel.op {σ0 : L2.St} {M : Md} {F' H' : Hp} (r : Rel M σ0 F H σ Γ) (e : Ext noA F H noA F' H') (s : Ex F' H') : Rel M σ0 F' H' σ Γ :=
  r.grow e.ff s fun a h => by
    obtain ⟨h1, u, h2⟩ := r.ownF h
    exact ⟨by rw [e.hh a u id h2, h2], e.fn a u id h2 h1 (r.ownNT h h2)⟩
theorem AVN.avr {M : Md} {σ0 : L2.St} {F' H' : Hp} {v : V} {av : AV} (r : Rel M σ0 F H σ Γ) (h : AVN M H F' H' v av) : AVR M (own σ Γ) H F' H' (own σ Γ) v av := by
  cases av with
  | dat d => exact h
  | own o =>
    obtain ⟨a, h1, h2, h3, h4⟩ := h
    refine ⟨a, h1, h3, fun z => ?_, h4, .inr h2⟩
    obtain ⟨_, u, hu⟩ := r.ownF z
    rw [h2] at hu; cases hu
theorem look_rep {M : Md} {σ0 : L2.St} (r : Rel M σ0 F H σ Γ) {i : Nat} {d : D} {v : V} (h : look Γ i = some d) (hv : σ[i]? = some (some v)) : Rep1 M F H d v := by
  unfold look at h
  split at h
  · rename_i d' h'
    cases h
    obtain ⟨w, h1, h2⟩ := r.dat h'
    rw [hv] at h1; cases h1
    exact h2.one r.sub
  · rename_i t o h'
    cases h
    obtain ⟨a, h1, _, h3, _⟩ := r.own h'
    rw [hv] at h1; cases h1
    exact h3.one
  · cases h
theorem get_rep {M : Md} {σ0 : L2.St} (r : Rel M σ0 F H σ Γ) {o : OV} {d : D} {v : V} (h : o.get Γ = some d) (hv : ovR M σ F v o) : Rep1 M F H d v := by
  cases o with
  | dat d' =>
    have h' : some d' = some d := h
    cases h'
    exact Rep.one hv r.sub
  | slot i => exact look_rep r h hv
theorem gets_rep {M : Md} {σ0 : L2.St} (r : Rel M σ0 F H σ Γ) : ∀ {os : List OV} {ds : List D} {vs : List V}, gets Γ os = some ds → ovsR M σ F vs os → reps1 M F H ds vs
  | [], ds, [], h, _ => by
    cases h
    trivial
  | [], _, _ :: _, _, h => h.elim
  | _ :: _, _, [], _, h => h.elim
  | o :: os, ds, v :: vs, h, hv => by
    unfold gets at h
    split at h
    · rename_i d ds' h1 h2
      cases h
      exact ⟨get_rep r h1 hv.1, gets_rep r h2 hv.2⟩
    · cases h
theorem ovR.ext {M : Md} {F' : Hp} {v : V} {o : OV} (h : ovR M σ F v o) (e : Ex F F') : ovR M σ F' v o := by
  cases o with
  | dat d => exact Rep.mono e h
  | slot i => exact h
theorem ovsR.ext {M : Md} {F' : Hp} (e : Ex F F') : ∀ {vs : List V} {os : List OV}, ovsR M σ F vs os → ovsR M σ F' vs os
  | [], [], _ => trivial
  | [], _ :: _, h => h.elim
  | _ :: _, [], h => h.elim
  | _ :: _, _ :: _, h => ⟨h.1.ext e, h.2.ext e⟩
end
/-- the operation g over operands -/
def opR (g : List D → Option AV) (os : List OV) (Γ : Ev) : Rs AV :=
  match gets Γ os with
  | some ds => (match g ds with
    | some av => .ok av Γ
    | none => .bad)
  | none => .bad
theorem po_op {c : Cf} {r : List V → Hp → VK → Prop} {g : List D → Option AV} (hg : OpS c.M r g) {σ : L2.St} {F H F1 H1 : Hp} {Γ Γ1 : Ev} {os : List OV} {vs : List V} {Q : VK} (rel : Rel c.M c.σ0 F1 H1 σ Γ1) (e : Ext (own σ Γ) F H (own σ Γ1) F1 H1)
    (hv : ovsR c.M σ F1 vs os) (q : Po c (vrO c.M) σ F H Γ (opR g os Γ1) Q) : r vs H1 Q := by
  unfold opR at q
  split at q
  · rename_i ds h1
    split at q
    · rename_i av h2
      refine hg F1 H1 vs ds av Q rel.sub (gets_rep rel h1 hv) h2 fun F' H' v x1 x2 x3 => ?_
      have e2 : Ext (own σ Γ1) F1 H1 (own σ Γ1) F' H' := x1.sub fun _ z => z.elim
      exact q F' H' v (rel.op x1 x2) (e.trans e2) (sh_O _ _ _ _ _ _ _ _ _ _ _ _ e (x3.avr rel))
    · exact q.elim
  · exact q.elim
section
variable {X : Cx} {c : Cf} {e a b : Expr} {es : List Expr} {pos : Pos}
def slotB (i : Nat) : Ev → Rs OV := fun Γ => match look Γ i with
  | some _ => .ok (.slot i) Γ
  | none => .bad
def datB (f : Ev → Rs D) : Ev → Rs OV := fun Γ => (f Γ).bind fun d Γ => .ok (.dat d) Γ
theorem db_of {f : Ev → Rs D} (h : DE X c e f) : DB X c e (datB f) := by
  refine PE.of h fun σ H Q ⟨F, Γ, r, q⟩ => ⟨F, Γ, r, ?_⟩
  refine (Po.bind (R := vrD c.M) q).imp fun v H' ⟨F', Γ', d, r1, e1, a1, q1⟩ => ?_
  exact q1 F' H' v r1 e1 a1
theorem look_some {M : Md} {σ0 : L2.St} {F H : Hp} {σ : L2.St} {Γ : Ev} (r : Rel M σ0 F H σ Γ) {i : Nat} {d : D} (h : look Γ i = some d) : ∃ v, σ[i]? = some (some v) := by
  unfold look at h
  split at h
  · rename_i d' h'
    obtain ⟨w, h1, h2⟩ := r.dat h'
    exact ⟨_, h1⟩
  · rename_i t o h'
    obtain ⟨a, h1, _⟩ := r.own h'
    exact ⟨_, h1⟩
  · cases h
theorem db_name {i : Nat} (h : PE X e (tVar i)) : DB X c e (slotB i) := by
  refine PE.of h fun σ H Q ⟨F, Γ, r, q⟩ => ?_
  unfold slotB at q
  split at q
  · rename_i d hd
    obtain ⟨v, hv⟩ := look_some r hd
    exact ⟨v, hv, q F H v r Ext.refl hv⟩
  · exact q.elim
/-- a name whose value is handed on: an own object becomes data -/
def nameE (i : Nat) : Ev → Rs D := fun Γ => match Γ[i]? with
  | some (.dat d) => .ok d Γ
  | some (.own none o) => .ok o.d (Γ.set i (.dat o.d))
  | _ => .bad
theorem Rel.drop {M : Md} {σ0 : L2.St} {F H : Hp} {σ : L2.St} {Γ : Ev} (r : Rel M σ0 F H σ Γ) {i : Nat} {g : Slot} (hg : ∀ s, σ[i]? = some s → SRel M σ0 F H s g) (no : ∀ t o, g ≠ .own t o) : Rel M σ0 F H σ (Γ.set i g) := by
  refine ⟨r.sub, by rw [List.length_set]; exact r.len, fun j s g' h1 h2 => ?_, fun j k t o t' o' a h1 h2 h3 h4 => ?_⟩
  · by_cases z : i = j
    · subst z
      have hi : i < Γ.length := by
        rw [← r.len]
        exact (List.getElem?_eq_some_iff.mp h1).1
      rw [List.getElem?_set_self hi] at h2
      cases h2
      exact hg s h1
    · rw [List.getElem?_set_ne z] at h2
      exact r.slot j s g' h1 h2
  · have n1 : ∀ {j t o}, (Γ.set i g)[j]? = some (Slot.own t o) → Γ[j]? = some (Slot.own t o) := fun {j t o} h => by
      by_cases z : i = j
      · subst z
        have hi : i < Γ.length := by
          have q := (List.getElem?_eq_some_iff.mp h).1
          rwa [List.length_set] at q
        rw [List.getElem?_set_self hi] at h
        exact absurd (Option.some.inj h) (no t o)
      · rwa [List.getElem?_set_ne z] at h
    exact r.sep j k t o t' o' a (n1 h1) (n1 h2) h3 h4
theorem own_drop {σ : L2.St} {Γ : Ev} {i : Nat} {g : Slot} (no : ∀ t o, g ≠ .own t o) {a : Addr} (h : own σ (Γ.set i g) a) : own σ Γ a := by
  obtain ⟨j, t, o, h1, h2⟩ := h
  by_cases z : i = j
  · subst z
    have hi : i < Γ.length := by
      have q := (List.getElem?_eq_some_iff.mp h1).1
      rwa [List.length_set] at q
    rw [List.getElem?_set_self hi] at h1
    exact absurd (Option.some.inj h1) (no t o)
  · rw [List.getElem?_set_ne z] at h1
    exact ⟨j, t, o, h1, h2⟩
/-- the slot's own object goes into the frame, as it stands or locked -/
theorem Rel.name {M : Md} {σ0 : L2.St} {F H : Hp} {σ : L2.St} {Γ : Ev} {i : Nat} {o : O} {a : Addr} {u u' : HO} (r : Rel M σ0 F H σ Γ) (ho : Γ[i]? = some (.own none o)) (h1 : σ[i]? = some (some (.ref a))) (h2 : F a = none) (hu : H a = some u) (hd : Rep M (upd F a u') o.d (.ref a)) :
    Rel M σ0 (upd F a u') (upd H a u') σ (Γ.set i (.dat o.d)) ∧ Ext (Nv.own σ Γ) F H (Nv.own σ (Γ.set i (.dat o.d))) (upd F a u') (upd H a u') := by
  have h5 : Nv.own σ Γ a := ⟨i, none, o, ho, h1⟩
  refine ⟨⟨fun b x e => ?_, by rw [List.length_set]; exact r.len, fun j s g g1 g2 => ?_, fun j k t o1 t' o2 b y1 y2 y3 y4 => ?_⟩, ⟨Evl.Ex.new h2, fun b x n q => ?_, fun b x n z f _ => ?_, fun b z => .inl (own_drop (by intro t o; exact fun z => nomatch z) z)⟩⟩
  · by_cases z : b = a
    · subst z; rw [upd_same] at e ⊢; exact e
    · rw [upd_ne z] at e ⊢; exact r.sub _ _ e
  · by_cases z : i = j
    · subst z
      have hi : i < Γ.length := (List.getElem?_eq_some_iff.mp ho).1
      rw [List.getElem?_set_self hi] at g2
      cases g2
      rw [h1] at g1
      cases g1
      exact ⟨_, rfl, hd⟩
    · rw [List.getElem?_set_ne z] at g2
      have q1 := r.slot j s g g1 g2
      cases g with
      | un => trivial
      | dat d => obtain ⟨v, x1, x2⟩ := q1; exact ⟨v, x1, x2.mono (Evl.Ex.new h2)⟩
      | own t o2 =>
        obtain ⟨b, x1, x2, x3, x4⟩ := q1
        subst x1
        have nb : b ≠ a := fun e => by
          subst e
          exact z (r.sep i j _ _ _ _ b ho g2 h1 g1)
        exact ⟨b, rfl, by rw [upd_ne nb]; exact x2, x3.mono (Evl.Ex.new h2) (by rw [upd_ne nb]), x4⟩
  · have n1 : ∀ {j t} {o' : O}, (Γ.set i (.dat o.d))[j]? = some (Slot.own t o') → Γ[j]? = some (Slot.own t o') := fun {j t o'} h => by
      by_cases z : i = j
      · subst z
        have hi : i < Γ.length := (List.getElem?_eq_some_iff.mp ho).1
        rw [List.getElem?_set_self hi] at h
        cases h
      · rwa [List.getElem?_set_ne z] at h
    exact r.sep j k _ _ _ _ b (n1 y1) (n1 y2) y3 y4
  · rw [upd_ne (show b ≠ a from fun e => n (e ▸ h5))]
    exact q
  · rw [upd_ne (show b ≠ a from fun e => n (e ▸ h5))]
    exact f
theorem upd_id {H : Hp} {a : Addr} {u : HO} (h : H a = some u) : upd H a u = H := by
  funext b
  by_cases z : b = a
  · subst z; rw [upd_same, h]
  · rw [upd_ne z]
theorem de_name {i : Nat} (h : PE X e (tVar i)) : DE X c e (nameE i) := by
  refine PE.lk h fun σ H Q ⟨F, Γ, r, q⟩ => ?_
  unfold nameE at q
  split at q
  · rename_i d hd
    obtain ⟨v, hv, hr⟩ := r.dat hd
    exact ⟨v, hv, .inl (q F H v r Ext.refl hr)⟩
  · rename_i o ho
    obtain ⟨a, h1, h2, h3, h4, h5⟩ := r.own ho
    cases hD : o.isD with
    | false =>
      obtain ⟨u, hu⟩ := h3.some
      have hh : (upd F a u) a = H a := by rw [upd_same, hu]
      have hd : Rep c.M (upd F a u) o.d (.ref a) := (h3.mono (H' := upd F a u) (Evl.Ex.new h2) hh).rep (fun _ _ h => h) hD
      obtain ⟨r1, e1⟩ := r.name ho h1 h2 hu hd
      rw [upd_id hu] at r1 e1
      exact ⟨.ref a, h1, .inl (q (upd F a u) H (.ref a) r1 e1 hd)⟩
    | true =>
      obtain ⟨u, hu, mu, hr⟩ := h3.repL hD h2
      refine ⟨.ref a, h1, .inr ⟨a, u, hu, mu, fun od => ?_⟩⟩
      obtain ⟨r1, e1⟩ := r.name ho h1 h2 hu (hr od)
      exact q _ _ (.ref a) r1 e1 (hr od)
  · exact q.elim
def nilA : Ev → Rs (List OV) := fun Γ => .ok [] Γ
def consA (f : Ev → Rs OV) (g : Ev → Rs (List OV)) : Ev → Rs (List OV) := fun Γ => (f Γ).bind fun o Γ => (g Γ).bind fun os Γ => .ok (o :: os) Γ
theorem da_nil : DA X c [] nilA := PA.of pa_nil fun σ H Q ⟨F, Γ, r, q⟩ => q F H [] r Ext.refl trivial
theorem da_cons {f : Ev → Rs OV} {g : Ev → Rs (List OV)} (h1 : DB X c e f) (h2 : DA X c es g) (hs : starEach (e :: es) X.env = (false, eval e X.env) :: starEach es X.env := by rfl) : DA X c (e :: es) (consA f g) := by
  refine PA.of (pa_cons h1 h2 hs) fun σ H Q ⟨F, Γ, r, q⟩ => ⟨F, Γ, r, ?_⟩
  refine (Po.bind (R := vrB c.M) q).imp fun v H1 ⟨F1, Γ1, o, r1, e1, a1, q1⟩ => ⟨F1, Γ1, r1, ?_⟩
  refine (Po.bind (R := vrA c.M) (Po.shift sh_A e1 q1)).imp fun vs H2 ⟨F2, Γ2, os, r2, e2, a2, q2⟩ => ?_
  exact q2 F2 H2 (v :: vs) r2 e2 ⟨a1.ext e2.ff, a2⟩
end
end Nv
-- N3
namespace Nv
open PySem PySem.Spec PyProof.Rows L2
open Evl (Ex)
section
variable {M : Md} {F H : Hp} {Q : VK}
abbrev Fin (M : Md) (F H : Hp) (av : AV) (Q : VK) : Prop := ∀ F' H' v, Ext noA F H noA F' H' → Ex F' H' → AVN M H F' H' v av → Q v H'
theorem fin_dat {d : D} {v : V} (sub : Ex F H) (h : Nv.Fin M F H (.dat d) Q) (r : Rep M F d v) : Q v H := h F H v Ext.refl sub r
theorem nof (sub : Ex F H) {p : Addr} (n : H p = none) : F p = none := by
  cases e : F p with
  | none => rfl
  | some o => rw [sub _ _ e] at n; cases n
theorem fin_own {p : Addr} {u : HO} {o : O} (sub : Ex F H) (h : Nv.Fin M F H (.own o) Q) (n : H p = none) (r : ORep M F (upd H p u) p o) : Q (.ref p) (upd H p u) :=
  h F (upd H p u) (.ref p) (Ext.new n) (sub.trans (Evl.Ex.new n)) ⟨p, rfl, n, nof sub n, r⟩
theorem fin_lst {p : Addr} {l : List D} {xs : List V} (sub : Ex F H) (h : Nv.Fin M F H (.own (.lst l)) Q) (n : H p = none) (r : Reps M F l xs) : Q (.ref p) (upd H p (.lst xs)) :=
  fin_own sub h n ⟨xs, upd_same, r⟩
theorem exNF (sub : Ex F H) {p : Addr} {u : HO} : Ex (upd F p u) (upd H p u) := fun b x e => by
  by_cases z : b = p
  · subst z; rw [upd_same] at e ⊢; exact e
  · rw [upd_ne z] at e ⊢; exact sub _ _ e
theorem fin_tup {p : Addr} {l : List D} {xs : List V} (sub : Ex F H) (h : Nv.Fin M F H (.dat (.tup l)) Q) (n : H p = none) (r : Reps M F l xs) : Q (.ref p) (upd H p (.tup xs)) :=
  h (upd F p (.tup xs)) (upd H p (.tup xs)) (.ref p) (Ext.newF n (nof sub n)) (exNF sub) (rep_tup.mpr ⟨p, xs, rfl, .inl upd_same, r.mono (Evl.Ex.new (nof sub n))⟩)
end
def O2 (M : Md) (r : R2) (g : D → D → Option AV) : Prop :=
  ∀ F H x y d1 d2 av Q, Ex F H → Rep1 M F H d1 x → Rep1 M F H d2 y → g d1 d2 = some av → Nv.Fin M F H av Q → r x y H Q
def op2R (g : D → D → Option AV) (o1 o2 : OV) (Γ : Ev) : Rs AV :=
  match o1.get Γ, o2.get Γ with
  | some a, some b => (match g a b with
    | some av => .ok av Γ
    | none => .bad)
  | _, _ => .bad
def op2 (g : D → D → Option AV) (fa fb : Ev → Rs OV) : Ev → Rs AV := fun Γ => (fa Γ).bind fun o1 Γ => (fb Γ).bind fun o2 Γ => op2R g o1 o2 Γ
theorem po_op2 {c : Cf} {r : R2} {g : D → D → Option AV} (hg : O2 c.M r g) {σ : L2.St} {F H F1 H1 : Hp} {Γ Γ1 : Ev} {o1 o2 : OV} {x y : V} {Q : VK} (rel : Rel c.M c.σ0 F1 H1 σ Γ1) (e : Ext (own σ Γ) F H (own σ Γ1) F1 H1)
    (h1 : ovR c.M σ F1 x o1) (h2 : ovR c.M σ F1 y o2) (q : Po c (vrO c.M) σ F H Γ (op2R g o1 o2 Γ1) Q) : r x y H1 Q := by
  unfold op2R at q
  split at q
  · rename_i a b e1 e2
    split at q
    · rename_i av e3
      refine hg F1 H1 x y a b av Q rel.sub (get_rep rel e1 h1) (get_rep rel e2 h2) e3 fun F' H' v x1 x2 x3 => ?_
      have e4 : Ext (own σ Γ1) F1 H1 (own σ Γ1) F' H' := x1.sub fun _ z => z.elim
      exact q F' H' v (rel.op x1 x2) (e.trans e4) (sh_O _ _ _ _ _ _ _ _ _ _ _ _ e (x3.avr rel))
    · exact q.elim
  · exact q.elim
theorem rd_op2 {c : Cf} {r : R2} {g : D → D → Option AV} (hg : O2 c.M r g) {fa fb : Ev → Rs OV} {σ : L2.St} {H : Hp} {Q : VK} (h : tR c (vrO c.M) (op2 g fa fb) σ H Q) : tOp r (tR c (vrB c.M) fa) (tR c (vrB c.M) fb) σ H Q := by
  obtain ⟨F, Γ, rel, q⟩ := h
  refine ⟨F, Γ, rel, ?_⟩
  refine (Po.bind (R := vrB c.M) q).imp fun x H1 ⟨F1, Γ1, o1, r1, e1, a1, q1⟩ => ⟨F1, Γ1, r1, ?_⟩
  refine (Po.bind (R := vrB c.M) (Po.shift sh_O e1 q1)).imp fun y H2 ⟨F2, Γ2, o2, r2, e2, a2, q2⟩ => ?_
  exact po_op2 hg r2 e2 (a1.ext e2.ff) a2 q2
def op1R (g : D → Option AV) (o : OV) (Γ : Ev) : Rs AV :=
  match o.get Γ with
  | some a => (match g a with
    | some av => .ok av Γ
    | none => .bad)
  | none => .bad
def op1 (g : D → Option AV) (f : Ev → Rs OV) : Ev → Rs AV := fun Γ => (f Γ).bind fun o Γ => op1R g o Γ
def O1 (M : Md) (r : V → Hp → VK → Prop) (g : D → Option AV) : Prop :=
  ∀ F H x d av Q, Ex F H → Rep1 M F H d x → g d = some av → Nv.Fin M F H av Q → r x H Q
theorem rd_op1 {c : Cf} {r : V → Hp → VK → Prop} {g : D → Option AV} (hg : O1 c.M r g) {f : Ev → Rs OV} {σ : L2.St} {H : Hp} {Q : VK} (h : tR c (vrO c.M) (op1 g f) σ H Q) : tUn r (tR c (vrB c.M) f) σ H Q := by
  obtain ⟨F, Γ, rel, q⟩ := h
  refine ⟨F, Γ, rel, ?_⟩
  refine (Po.bind (R := vrB c.M) q).imp fun x H1 ⟨F1, Γ1, o1, r1, e1, a1, q1⟩ => ?_
  have q2 : Po c (vrO c.M) σ F H Γ (op1R g o1 Γ1) Q := q1
  unfold op1R at q2
  split at q2
  · rename_i a ea
    split at q2
    · rename_i av e3
      refine hg F1 H1 x a av Q r1.sub (get_rep r1 ea a1) e3 fun F' H' v x1 x2 x3 => ?_
      have e4 : Ext (own σ Γ1) F1 H1 (own σ Γ1) F' H' := x1.sub fun _ z => z.elim
      exact q2 F' H' v (r1.op x1 x2) (e1.trans e4) (sh_O _ _ _ _ _ _ _ _ _ _ _ _ e1 (x3.avr r1))
    · exact q2.elim
  · exact q2.elim
def opA (g : List D → Option AV) (f : Ev → Rs (List OV)) : Ev → Rs AV := fun Γ => (f Γ).bind fun os Γ => opR g os Γ
theorem rd_opA {c : Cf} {r : List V → Hp → VK → Prop} {g : List D → Option AV} (hg : OpS c.M r g) {f : Ev → Rs (List OV)} {σ : L2.St} {H : Hp} {Q : VK} (h : tR c (vrO c.M) (opA g f) σ H Q) : tCB r (tR c (vrA c.M) f) σ H Q := by
  obtain ⟨F, Γ, rel, q⟩ := h
  refine ⟨F, Γ, rel, ?_⟩
  exact (Po.bind (R := vrA c.M) q).imp fun vs H1 ⟨F1, Γ1, os, r1, e1, a1, q1⟩ => po_op hg r1 e1 a1 q1
def tst (r : Rs AV) : Rs Bool := r.bind fun av Γ => match av with
  | .dat (.bl b) => .ok b Γ
  | _ => .bad
theorem po_tst {c : Cf} {σ : L2.St} {F H : Hp} {Γ : Ev} {r : Rs AV} {Q : Bool → Hp → Prop} (h : Po c vrT σ F H Γ (tst r) Q) : Po c (vrO c.M) σ F H Γ r fun x H' => ∃ k, x = .bl k ∧ Q k H' := by
  refine (Po.bind (R := vrO c.M) h).imp fun v H' ⟨F', Γ', av, r1, e1, a1, q1⟩ => ?_
  split at q1
  · rename_i b
    exact ⟨b, rep_bl.mp (show Rep c.M F' (.bl b) v from a1), q1 F' H' b r1 e1 rfl⟩
  · exact q1.elim
theorem dt_of {X : Cx} {c : Cf} {e : Expr} {t : TE} {f : Ev → Rs AV} (h : PT X e (tTest t)) (i : ∀ σ H Q, tR c (vrO c.M) f σ H Q → t σ H Q) : DT X c e (fun Γ => tst (f Γ)) :=
  PT.of h fun σ H Q ⟨F, Γ, r, q⟩ => i σ H _ ⟨F, Γ, r, po_tst q⟩
section
variable {X : Cx} {c : Cf} {e a b d : Expr} {es : List Expr} {pos : Pos}
def datO (f : Ev → Rs D) : Ev → Rs AV := fun Γ => (f Γ).bind fun d Γ => .ok (.dat d) Γ
theorem do_of {f : Ev → Rs D} (h : DE X c e f) : DO X c e (datO f) := by
  refine PE.of h fun σ H Q ⟨F, Γ, r, q⟩ => ⟨F, Γ, r, ?_⟩
  exact (Po.bind (R := vrD c.M) q).imp fun v H' ⟨F', Γ', d, r1, e1, a1, q1⟩ => q1 F' H' v r1 e1 a1
def cst (d : D) : Ev → Rs D := fun Γ => .ok d Γ
theorem de_c {v : V} {d : D} (h : PE X e (tC v)) (hr : ∀ H, Rep c.M H d v) : DE X c e (cst d) :=
  PE.of h fun σ H Q ⟨F, Γ, r, q⟩ => q F H v r Ext.refl (hr F)
theorem de_int {i : Int} {j : Nat} {pos} : DE X c (.Constant (.int i) j pos) (cst (.int i)) := de_c pe_int fun _ => rep_int.mpr rfl
theorem de_bl {i : Bool} {j : Nat} {pos} : DE X c (.Constant (.bool i) j pos) (cst (.bl i)) := de_c pe_bl fun _ => rep_bl.mpr rfl
theorem de_str {x : Str} {j : Nat} {pos} (h : PyData.strOk x = true := by decide +kernel) : DE X c (.Constant (.str x) j pos) (cst (.str x)) := de_c pe_str fun _ => rep_str.mpr ⟨rfl, h⟩
theorem de_gint {x : Str} {i : Int} {u : Value} (hm : X.mg x = some u) (r : RelV (.int i) u) (hg : Gl X x := by rfl) (hd : (x == ("__debug__" : Str)) = false := by decide) : DE X c (.Name x pos) (cst (.int i)) := de_c (pe_glob hg hm r hd) fun _ => rep_int.mpr rfl
theorem do_op {op : Operator} {r : R2} {g : D → D → Option AV} {fa fb : Ev → Rs OV} (ho : OpR X (binaryOp op) r) (hg : O2 c.M r g) (ha : DB X c a fa) (hb : DB X c b fb) : DO X c (.BinOp a op b pos) (op2 g fa fb) :=
  PE.of (pe_op ho ha hb) fun _ _ _ q => rd_op2 hg q
theorem dt_cmp {op : CmpOp} {r : R2} {g : D → D → Option AV} {fa fb : Ev → Rs OV} (ho : OpR X (compareOp op) r) (hg : O2 c.M r g) (ha : DB X c a fa) (hb : DB X c b fb) (hm : behindInMarks op b = false) : DT X c (.Compare a [op] [b] pos) (fun Γ => tst (op2 g fa fb Γ)) :=
  dt_of (pt_cmpR ho ha hb hm) fun _ _ _ q => rd_op2 hg q
theorem do_un {op : UnaryOp} {r : V → Hp → VK → Prop} {g : D → Option AV} {f : Ev → Rs OV} (ho : UnR X (unaryOp op) r) (hg : O1 c.M r g) (ha : DB X c a f) : DO X c (.UnaryOp op a pos) (op1 g f) :=
  PE.of (pe_un ho ha) fun _ _ _ q => rd_op1 hg q
theorem do_ix {r : R2} {g : D → D → Option AV} {fa fb : Ev → Rs OV} (ho : IxR X r) (hg : O2 c.M r g) (ha : DB X c a fa) (hb : DB X c b fb) (hs : PlainIx b := by intro _ _; rfl) : DO X c (.Subscript a b pos) (op2 g fa fb) :=
  PE.of (pe_ix ho ha hb hs) fun _ _ _ q => rd_op2 hg q
theorem do_callB {id : String} {x : Str} {p : Pos} {r : List V → Hp → VK → Prop} {g : List D → Option AV} {f : Ev → Rs (List OV)} (hc : CallR X (.builtin id) r) (hO : OpS c.M r g) (hm : X.mg x = none) (ha : DA X c (e :: es) f) (hg : Gl X x := by rfl) (hv : bootBuiltins x = some (.builtin id) := by decide +kernel)
    (hn : x ≠ "__name__" := by decide) (hdb : (x == ("__debug__" : Str)) = false := by decide) (he : starEach (e :: es) X.env = (false, eval e X.env) :: starEach es X.env := by rfl) (hpl : (backTo pos (starEach es X.env)).any (·.1) = false := by rfl) : DO X c (.Call (.Name x p) (e :: es) [] pos) (opA g f) :=
  PE.of (pe_callB hc hg hm hv ha hn hdb he hpl) fun _ _ _ q => rd_opA hO q
theorem do_callTy {T : String} {x : Str} {p : Pos} {r : List V → Hp → VK → Prop} {g : List D → Option AV} {f : Ev → Rs (List OV)} (hc : CallR X (.type T) r) (hO : OpS c.M r g) (hm : X.mg x = none) (ha : DA X c (e :: es) f) (hg : Gl X x := by rfl) (hv : bootBuiltins x = some (.type T) := by decide +kernel)
    (hn : x ≠ "__name__" := by decide) (hdb : (x == ("__debug__" : Str)) = false := by decide) (he : starEach (e :: es) X.env = (false, eval e X.env) :: starEach es X.env := by rfl) (hpl : (backTo pos (starEach es X.env)).any (·.1) = false := by rfl) : DO X c (.Call (.Name x p) (e :: es) [] pos) (opA g f) :=
  PE.of (pe_callTy hc hg hm hv ha hn hdb he hpl) fun _ _ _ q => rd_opA hO q
end
end Nv
-- N4
namespace Nv
open PySem PySem.Spec PyProof.Rows L2
open Evl (Ex)
section
variable {M : Md} {F H : Hp} {v : V}
theorem r1_bl {b : Bool} (h : Rep1 M F H (.bl b) v) : v = .bl b := rep_bl.mp (show Rep M F (.bl b) v from h)
theorem r1_int {b : Int} (h : Rep1 M F H (.int b) v) : v = .int b := rep_int.mp (show Rep M F (.int b) v from h)
theorem r1_str {b : Str} (h : Rep1 M F H (.str b) v) : v = .str b ∧ PyData.strOk b = true := rep_str.mp (show Rep M F (.str b) v from h)
theorem r1_tup {l : List D} (h : Rep1 M F H (.tup l) v) : ∃ a xs, v = .ref a ∧ SqT M.K F a xs ∧ Reps M F l xs := by
  obtain ⟨a, xs, h1, h2, h3⟩ := rep_tup.mp (show Rep M F (.tup l) v from h)
  exact ⟨a, xs, h1, h2.sq h3, h3⟩
theorem r1_tupS {l : List D} (h : Rep1 M F H (.tup l) v) (n : l ≠ []) : ∃ a xs, v = .ref a ∧ F a = some (.tup xs) ∧ Reps M F l xs := by
  obtain ⟨a, xs, h1, h2, h3⟩ := rep_tup.mp (show Rep M F (.tup l) v from h)
  rcases h2 with h2 | ⟨z, _⟩
  · exact ⟨a, xs, h1, h2, h3⟩
  · exact absurd z n
theorem r1_fz {l : List D} (h : Rep1 M F H (.fz l) v) : ∃ a xs, v = .ref a ∧ SqL M.K F a xs ∧ Reps M F l xs := rep_fz.mp (show Rep M F (.fz l) v from h)
theorem r1_lst {l : List D} (h : Rep1 M F H (.lst l) v) : ∃ a xs, v = .ref a ∧ H a = some (.lst xs) ∧ Reps M F l xs := h
end
def mulOk (i j : Int) : Bool := decide (-(2 ^ 64) < i ∧ i < 2 ^ 64) || decide (-(2 ^ 64) < j ∧ j < 2 ^ 64) || decide (i.natAbs.log2 + j.natAbs.log2 < 1000000)
theorem strOk_append {x y : Str} (hx : PyData.strOk x = true) (hy : PyData.strOk y = true) : PyData.strOk (x ++ y) = true := by
  show ((x ++ y).cps).all _ = true
  have e : (x ++ y).cps = x.cps ++ y.cps := rfl
  rw [e, Array.all_append, Bool.and_eq_true]
  exact ⟨hx, hy⟩
def gAdd : D → D → Option AV
  | .int i, .int j => some (.dat (.int (i + j)))
  | .str x, .str y => if x.length + y.length ≤ sizeLine then some (.dat (.str (x ++ y))) else none
  | .lst x, .lst y => if x.length + y.length ≤ sizeLine then some (.own (.lst (x ++ y))) else none
  | .tup x, .tup y => if x.length + y.length ≤ sizeLine then some (.dat (.tup (x ++ y))) else none
  | _, _ => none
def rAddA (K : PySem.W.Frag) : R2 := fun x y H Q => (((∃ i j, x = .int i ∧ y = .int j ∧ Q (.int (i + j)) H) ∨ (∃ i j, x = .str i ∧ y = .str j ∧ i.length + j.length ≤ sizeLine ∧ Q (.str (i ++ j)) H)) ∨ rCat x y H Q) ∨ rCatA K x y H Q
theorem op_addA {X : Cx} : OpR X (binaryOp .Add) (rAddA X.K) := ((op_add.or op_add_str).or op_cat).or op_catA
theorem o2_add {M : Md} : O2 M (rAddA M.K) gAdd := by
  intro F H x y d1 d2 av Q sub r1 r2 e h
  unfold gAdd at e
  split at e
  · cases e
    rename_i i j
    exact .inl (.inl (.inl ⟨i, j, r1_int r1, r1_int r2, fin_dat sub h (rep_int.mpr rfl)⟩))
  · rename_i z w
    split at e
    · rename_i hl
      cases e
      obtain ⟨rfl, h1⟩ := r1_str r1
      obtain ⟨rfl, h2⟩ := r1_str r2
      exact .inl (.inl (.inr ⟨z, w, rfl, rfl, hl, fin_dat sub h (rep_str.mpr ⟨rfl, strOk_append h1 h2⟩)⟩))
    · cases e
  · rename_i l m
    split at e
    · rename_i hl
      cases e
      obtain ⟨a, xs, rfl, ha, hx⟩ := r1
      obtain ⟨b, ys, rfl, hb, hy⟩ := r2
      refine .inl (.inr ⟨a, b, xs, ys, rfl, rfl, ha, hb, ?_, fun p n => fin_lst sub h n (hx.append hy)⟩)
      rw [hx.length, hy.length]; exact hl
    · cases e
  · rename_i l m
    split at e
    · rename_i hl
      cases e
      obtain ⟨a, xs, rfl, ha, hx⟩ := r1_tup r1
      obtain ⟨b, ys, rfl, hb, hy⟩ := r1_tup r2
      have nil_of : ∀ {l : List D} {xs : List V}, Reps M F l xs → xs = [] → l = [] := fun {l xs} h z => by
        have q := h.length
        rw [z] at q
        exact List.length_eq_zero_iff.mp q.symm
      refine .inr ⟨a, b, xs, ys, rfl, rfl, Evl.ex_t sub ha, Evl.ex_t sub hb, ?_, fun z => ?_, fun _ z => ?_, fun _ _ p n => fin_tup sub h n (hx.append hy)⟩
      · rw [hx.length, hy.length]; exact hl
      · have e0 := nil_of hx z
        subst e0
        rw [List.nil_append] at h
        exact fin_dat sub h r2
      · have e0 := nil_of hy z
        subst e0
        rw [List.append_nil] at h
        exact fin_dat sub h r1
    · cases e
  · cases e
/-- two ints, guarded -/
def gI (ok : Int → Int → Bool) (f : Int → Int → D) : D → D → Option AV
  | .int i, .int j => if ok i j = true then some (.dat (f i j)) else none
  | _, _ => none
theorem o2_I {M : Md} {r : R2} {ok : Int → Int → Bool} {f : Int → Int → D} {w : Int → Int → V} (hf : ∀ F i j, Rep M F (f i j) (w i j)) (hr : ∀ i j H Q, ok i j = true → Q (w i j) H → r (.int i) (.int j) H Q) : O2 M r (gI ok f) := by
  intro F H x y d1 d2 av Q sub r1 r2 e h
  unfold gI at e
  split at e
  · rename_i i j
    split at e
    · rename_i hok
      cases e
      cases r1_int r1
      cases r1_int r2
      exact hr i j H Q hok (fin_dat sub h (hf F i j))
    · cases e
  · cases e
def okT : Int → Int → Bool := fun _ _ => true
abbrev gSub := gI okT fun i j => .int (i - j)
abbrev gMul := gI mulOk fun i j => .int (i * j)
abbrev gMod := gI (fun _ j => decide (0 < j)) fun i j => .int (i % j)
abbrev gFdv := gI (fun _ j => decide (0 < j) && decide (j.natAbs.log2 < 9000)) fun i j => .int (i / j)
abbrev gPow := gI (fun i j => decide (0 ≤ j ∧ j ≤ 1000000 ∧ i.natAbs < 2 ^ 64)) fun i j => .int (i ^ j.toNat)
theorem ri (M : Md) (F : Hp) (i : Int) : Rep M F (.int i) (.int i) := rep_int.mpr rfl
theorem rb (M : Md) (F : Hp) (i : Bool) : Rep M F (.bl i) (.bl i) := rep_bl.mpr rfl
def rMulA : R2 := fun x y H Q => rI CMul (fun i j => .int (i * j)) x y H Q ∨ rI CMulW (fun i j => .int (i * j)) x y H Q
theorem op_mulA {X : Cx} : OpR X (binaryOp .Mult) rMulA := op_mul.or op_mulW
section
variable {M : Md}
theorem o2_sub : O2 M (rI0 fun i j => .int (i - j)) gSub := o2_I (fun F i j => ri M F _) fun i j H Q _ q => ⟨i, j, rfl, rfl, q⟩
theorem o2_mul : O2 M rMulA gMul := o2_I (fun F i j => ri M F _) fun i j H Q ok q => by
  unfold mulOk at ok
  simp only [Bool.or_eq_true, decide_eq_true_eq] at ok
  rcases ok with (ok | ok) | ok
  · exact .inl ⟨i, j, rfl, rfl, .inl ok, q⟩
  · exact .inl ⟨i, j, rfl, rfl, .inr ok, q⟩
  · exact .inr ⟨i, j, rfl, rfl, ok, q⟩
theorem o2_mod : O2 M (rI (fun _ j => 0 < j) fun i j => .int (i % j)) gMod := o2_I (fun F i j => ri M F _) fun i j H Q ok q => ⟨i, j, rfl, rfl, of_decide_eq_true ok, q⟩
theorem o2_fdv : O2 M (rI CDivW fun i j => .int (i / j)) gFdv := o2_I (fun F i j => ri M F _) fun i j H Q ok q => by
  rw [Bool.and_eq_true] at ok
  exact ⟨i, j, rfl, rfl, ⟨of_decide_eq_true ok.1, of_decide_eq_true ok.2⟩, q⟩
theorem o2_pow : O2 M (rI CPow fun i j => .int (i ^ j.toNat)) gPow := o2_I (fun F i j => ri M F _) fun i j H Q ok q => ⟨i, j, rfl, rfl, (show CPow i j from of_decide_eq_true (p := 0 ≤ j ∧ j ≤ 1000000 ∧ i.natAbs < 2 ^ 64) ok), q⟩
abbrev gLt := gI okT fun i j => .bl (decide (i < j))
abbrev gLe := gI okT fun i j => .bl (decide (i ≤ j))
abbrev gGt := gI okT fun i j => .bl (decide (j < i))
abbrev gGe := gI okT fun i j => .bl (decide (j ≤ i))
theorem o2_lt : O2 M (rI0 fun i j => .bl (decide (i < j))) gLt := o2_I (fun F i j => rb M F _) fun i j H Q _ q => ⟨i, j, rfl, rfl, q⟩
theorem o2_le : O2 M (rI0 fun i j => .bl (decide (i ≤ j))) gLe := o2_I (fun F i j => rb M F _) fun i j H Q _ q => ⟨i, j, rfl, rfl, q⟩
theorem o2_gt : O2 M (rI0 fun i j => .bl (decide (j < i))) gGt := o2_I (fun F i j => rb M F _) fun i j H Q _ q => ⟨i, j, rfl, rfl, q⟩
theorem o2_ge : O2 M (rI0 fun i j => .bl (decide (j ≤ i))) gGe := o2_I (fun F i j => rb M F _) fun i j H Q _ q => ⟨i, j, rfl, rfl, q⟩
def gNeg : D → Option AV
  | .int i => some (.dat (.int (-i)))
  | _ => none
theorem o1_neg : O1 M (rU fun i => .int (-i)) gNeg := by
  intro F H x d av Q sub r e h
  unfold gNeg at e
  split at e
  · cases e
    exact ⟨_, r1_int r, fin_dat sub h (rep_int.mpr rfl)⟩
  · cases e
end
mutual
/-- as the library's data, for == ; dicts and instances are none of it -/
def D.py : D → PyData
  | .non => .none
  | .bl b => .bool b
  | .int i => .int i
  | .str s => .str s
  | .tup l => .tuple (D.pys l)
  | .lst l => .list (D.pys l)
  | _ => .dict []
def D.pys : List D → List PyData
  | [] => []
  | d :: l => d.py :: D.pys l
end
mutual
/-- the depth, none where == is not told -/
def D.eqd : D → Option Nat
  | .non | .bl _ | .int _ | .str _ => some 0
  | .tup l => (D.eqds l).map (· + 1)
  | .lst l => (D.eqds l).map (· + 1)
  | _ => none
def D.eqds : List D → Option Nat
  | [] => some 0
  | d :: l => match d.eqd, D.eqds l with
    | some a, some b => some (max a b)
    | _, _ => none
end
/-- == is told of it: plain, not too deep -/
def D.eqs (d : D) : Bool := match d.eqd with
  | some n => decide (n ≤ 64)
  | none => false
mutual
theorem py_dp {M : Md} {F : Hp} : ∀ {d : D} {v : V} {n : Nat}, Rep M F d v → d.eqd = some n → Dp M.K F v d.py ∧ d.py.canLay0 = true ∧ d.py.depth = n
  | .non, _, _, h, e => by
    cases rep_non.mp h; cases e
    exact ⟨.non, rfl, rfl⟩
  | .bl b, _, _, h, e => by
    cases rep_bl.mp h; cases e
    exact ⟨.bl b, rfl, rfl⟩
  | .int i, _, _, h, e => by
    cases rep_int.mp h; cases e
    exact ⟨.int i, rfl, rfl⟩
  | .str s, _, _, h, e => by
    obtain ⟨rfl, h2⟩ := rep_str.mp h
    cases e
    refine ⟨.str s, ?_, rfl⟩
    unfold D.py PyData.canLay0
    exact h2
  | .tup l, _, n, h, e => by
    obtain ⟨a, xs, rfl, h1, h2⟩ := rep_tup.mp h
    unfold D.eqd at e
    cases q : D.eqds l with
    | none => rw [q] at e; cases e
    | some m =>
      rw [q] at e
      cases e
      obtain ⟨x1, x2, x3⟩ := pys_dp h2 q
      refine ⟨.tup (h1.sq h2) x1, ?_, ?_⟩
      · unfold D.py PyData.canLay0; exact x2
      · unfold D.py PyData.depth; rw [x3]
  | .lst l, _, n, h, e => by
    obtain ⟨a, xs, rfl, h1, h2⟩ := rep_lst.mp h
    unfold D.eqd at e
    cases q : D.eqds l with
    | none => rw [q] at e; cases e
    | some m =>
      rw [q] at e
      cases e
      obtain ⟨x1, x2, x3⟩ := pys_dp h2 q
      refine ⟨.lst (SqL.of h1) x1, ?_, ?_⟩
      · unfold D.py PyData.canLay0; exact x2
      · unfold D.py PyData.depth; rw [x3]
  | .fz l, _, _, _, e => by cases e
  | .dct l, _, _, _, e => by cases e
  | .dtt l, _, _, _, e => by cases e
  | .ins _ l, _, _, _, e => by cases e
  | .ty _, _, _, _, e => by cases e
  | .cls _, _, _, _, e => by cases e
theorem pys_dp {M : Md} {F : Hp} : ∀ {l : List D} {xs : List V} {n : Nat}, Reps M F l xs → D.eqds l = some n → DpAll M.K F xs (D.pys l) ∧ PyData.canLayAll0 (D.pys l) = true ∧ PyData.depthAll (D.pys l) = n
  | [], _, _, h, e => by
    cases reps_nil.mp h; cases e
    exact ⟨.nil, rfl, rfl⟩
  | d :: l, _, n, h, e => by
    obtain ⟨v, r, rfl, h1, h2⟩ := reps_cons.mp h
    unfold D.eqds at e
    cases q1 : d.eqd with
    | none => rw [q1] at e; cases e
    | some a =>
      cases q2 : D.eqds l with
      | none => rw [q1, q2] at e; cases e
      | some b =>
        rw [q1, q2] at e
        cases e
        obtain ⟨x1, x2, x3⟩ := py_dp h1 q1
        obtain ⟨y1, y2, y3⟩ := pys_dp h2 q2
        refine ⟨.cons x1 y1, ?_, ?_⟩
        · unfold D.pys PyData.canLayAll0; rw [x2, y2]; rfl
        · unfold D.pys PyData.depthAll; rw [x3, y3]
end
theorem py_shaped {M : Md} {F : Hp} {d : D} {v : V} (h : Rep M F d v) (e : d.eqs = true) : Dp M.K F v d.py ∧ SeqAt.shaped d.py = true := by
  unfold D.eqs at e
  cases q : d.eqd with
  | none => rw [q] at e; cases e
  | some n =>
    rw [q] at e
    obtain ⟨h1, h2, h3⟩ := py_dp h q
    refine ⟨h1, ?_⟩
    unfold SeqAt.shaped
    rw [h2, Bool.true_and, h3]
    exact e
theorem eqs_nd {d : D} (h : d.eqs = true) : d.isD = false := by
  cases d <;> first | rfl | cases h
/-- == of plain data -/
def D.eq (a b : D) : Bool := PyData.eqv a.py b.py
def gEq : D → D → Option AV := fun a b => if (a.eqs && b.eqs) = true then some (.dat (.bl (a.eq b))) else none
def gNe : D → D → Option AV := fun a b => if (a.eqs && b.eqs) = true then some (.dat (.bl (!a.eq b))) else none
theorem o2_eq {M : Md} : O2 M (rEqD M.K) gEq := by
  intro F H x y d1 d2 av Q sub r1 r2 e h
  unfold gEq at e
  split at e
  · rename_i hs
    rw [Bool.and_eq_true] at hs
    cases e
    obtain ⟨p1, s1⟩ := py_shaped (r1.rep sub (eqs_nd hs.1)) hs.1
    obtain ⟨p2, s2⟩ := py_shaped (r2.rep sub (eqs_nd hs.2)) hs.2
    exact ⟨_, _, p1, p2, s1, s2, fin_dat sub h (rep_bl.mpr rfl)⟩
  · cases e
theorem o2_ne {M : Md} : O2 M (rNeD M.K) gNe := by
  intro F H x y d1 d2 av Q sub r1 r2 e h
  unfold gNe at e
  split at e
  · rename_i hs
    rw [Bool.and_eq_true] at hs
    cases e
    obtain ⟨p1, s1⟩ := py_shaped (r1.rep sub (eqs_nd hs.1)) hs.1
    obtain ⟨p2, s2⟩ := py_shaped (r2.rep sub (eqs_nd hs.2)) hs.2
    exact ⟨_, _, p1, p2, s1, s2, fin_dat sub h (rep_bl.mpr rfl)⟩
  · cases e
/-- is None -/
def D.isN : D → Bool
  | .non => true
  | _ => false
def gIs : D → D → Option AV := fun a b => match b with
  | .non => some (.dat (.bl a.isN))
  | _ => none
def gIsn : D → D → Option AV := fun a b => match b with
  | .non => some (.dat (.bl (!a.isN)))
  | _ => none
end Nv
-- N5
namespace Nv
open PySem PySem.Spec PyProof.Rows L2
open Evl (Ex)
def D.key : D → Option Key
  | .int i => some (.inl i)
  | .str s => some (.inr s)
  | _ => none
def keysOf : List D → Option (List Key)
  | [] => some []
  | d :: l => match d.key, keysOf l with
    | some k, some r => some (k :: r)
    | _, _ => none
def D.keyT : D → Option (List Key)
  | .tup (d :: l) => keysOf (d :: l)
  | _ => none
theorem key_kD {d : D} {k : Key} (h : d.key = some k) : d = kD k := by
  unfold D.key at h
  split at h <;> cases h <;> rfl
theorem keys_kD : ∀ {l : List D} {ks : List Key}, keysOf l = some ks → l = ks.map kD
  | [], _, h => by cases h; rfl
  | d :: l, ks, h => by
    unfold keysOf at h
    split at h
    · rename_i k r h1 h2
      cases h
      rw [List.map_cons, ← key_kD h1, ← keys_kD h2]
    · cases h
theorem keyT_kD {d : D} {ks : List Key} (h : d.keyT = some ks) : ks ≠ [] ∧ d = .tup (ks.map kD) := by
  unfold D.keyT at h
  split at h
  · rename_i d l
    have e := keys_kD h
    refine ⟨fun z => ?_, by rw [e]⟩
    rw [z] at e; cases e
  · cases h
theorem key_eq (q k : Key) : (kD q).eq (kD k) = decide (q = k) := by
  cases q with
  | inl i =>
    cases k with
    | inl j =>
      show PyData.eqv (.int i) (.int j) = _
      unfold PyData.eqv
      rw [Bool.eq_iff_iff]; simp
    | inr y =>
      show PyData.eqv (.int i) (.str y) = _
      unfold PyData.eqv
      rw [Bool.eq_iff_iff]; simp
  | inr x =>
    cases k with
    | inl j =>
      show PyData.eqv (.str x) (.int j) = _
      unfold PyData.eqv
      rw [Bool.eq_iff_iff]; simp
    | inr y =>
      show PyData.eqv (.str x) (.str y) = _
      unfold PyData.eqv
      rw [Bool.eq_iff_iff]; simp
theorem keys_eq : ∀ q k : List Key, PyData.eqvAll (D.pys (q.map kD)) (D.pys (k.map kD)) = decide (q = k)
  | [], [] => rfl
  | [], _ :: _ => by
    unfold List.map D.pys PyData.eqvAll
    rw [Bool.eq_iff_iff]; simp
  | _ :: _, [] => by
    unfold List.map D.pys PyData.eqvAll
    rw [Bool.eq_iff_iff]; simp
  | a :: q, b :: k => by
    have h1 := key_eq a b
    have h2 := keys_eq q k
    unfold D.eq at h1
    show PyData.eqvAll ((kD a).py :: D.pys (q.map kD)) ((kD b).py :: D.pys (k.map kD)) = _
    unfold PyData.eqvAll
    rw [h1, h2, Bool.eq_iff_iff]
    simp
theorem keyT_eq (q k : List Key) : (D.tup (q.map kD)).eq (.tup (k.map kD)) = decide (q = k) := by
  rw [← keys_eq]
  show PyData.eqv (.tuple (D.pys (q.map kD))) (.tuple (D.pys (k.map kD))) = _
  unfold PyData.eqv
  rfl
def dlook (l : List (D × D)) (k : D) : Option D := (l.find? fun p => p.1.eq k).map (·.2)
def dput (l : List (D × D)) (k v : D) : List (D × D) := if (l.any fun p => p.1.eq k) = true then l.map (fun p => if p.1.eq k = true then (p.1, v) else p) else l ++ [(k, v)]
def ddrop (l : List (D × D)) (k : D) : List (D × D) := l.filter fun p => !p.1.eq k
def RO (M : Md) (F : Hp) : Option D → Option V → Prop
  | some d, some v => Rep M F d v
  | none, none => True
  | _, _ => False
section
variable {M : Md} {F : Hp}
theorem repK_nil {xs : List (Key × V)} : RepK M F [] xs ↔ xs = [] := by unfold RepK; exact Iff.rfl
theorem repK_cons {p : D × D} {l : List (D × D)} {xs : List (Key × V)} : RepK M F (p :: l) xs ↔ ∃ q v r, xs = (q, v) :: r ∧ (p.1 = kD q ∧ kOk q = true) ∧ Rep M F p.2 v ∧ RepK M F l r := by rw [RepK]
theorem repT_nil {xs : List (List Key × V)} : RepT M F [] xs ↔ xs = [] := by unfold RepT; exact Iff.rfl
theorem repT_cons {p : D × D} {l : List (D × D)} {xs : List (List Key × V)} : RepT M F (p :: l) xs ↔ ∃ q v r, xs = (q, v) :: r ∧ (p.1 = .tup (q.map kD) ∧ q.all kOk = true) ∧ Rep M F p.2 v ∧ RepT M F l r := by rw [RepT]
theorem RepK.length : ∀ {l : List (D × D)} {xs : List (Key × V)}, RepK M F l xs → xs.length = l.length
  | [], _, h => by cases repK_nil.mp h; rfl
  | p :: l, _, h => by
    obtain ⟨q, v, r, rfl, _, _, h3⟩ := repK_cons.mp h
    rw [List.length_cons, List.length_cons, RepK.length h3]
theorem RepT.length : ∀ {l : List (D × D)} {xs : List (List Key × V)}, RepT M F l xs → xs.length = l.length
  | [], _, h => by cases repT_nil.mp h; rfl
  | p :: l, _, h => by
    obtain ⟨q, v, r, rfl, _, _, h3⟩ := repT_cons.mp h
    rw [List.length_cons, List.length_cons, RepT.length h3]
theorem dlook_cons (p : D × D) (l : List (D × D)) (k : D) : dlook (p :: l) k = if p.1.eq k = true then some p.2 else dlook l k := by
  unfold dlook
  rw [List.find?_cons]
  cases h : p.1.eq k with
  | true => rfl
  | false => rfl
theorem RepK.look : ∀ {l : List (D × D)} {xs : List (Key × V)} (k : Key), RepK M F l xs → RO M F (dlook l (kD k)) (valV xs k)
  | [], _, k, h => by cases repK_nil.mp h; trivial
  | p :: l, _, k, h => by
    obtain ⟨q, v, r, rfl, ⟨h1, _⟩, h2, h3⟩ := repK_cons.mp h
    rw [dlook_cons, h1, key_eq]
    by_cases e : q = k
    · rw [decide_eq_true e, if_pos rfl, valV_pos e]; exact h2
    · rw [decide_eq_false e, if_neg (by decide), valV_neg e]; exact RepK.look k h3
theorem RepT.look : ∀ {l : List (D × D)} {xs : List (List Key × V)} (k : List Key), RepT M F l xs → RO M F (dlook l (.tup (k.map kD))) (valV xs k)
  | [], _, k, h => by cases repT_nil.mp h; trivial
  | p :: l, _, k, h => by
    obtain ⟨q, v, r, rfl, ⟨h1, _⟩, h2, h3⟩ := repT_cons.mp h
    rw [dlook_cons, h1, keyT_eq]
    by_cases e : q = k
    · rw [decide_eq_true e, if_pos rfl, valV_pos e]; exact h2
    · rw [decide_eq_false e, if_neg (by decide), valV_neg e]; exact RepT.look k h3
theorem RepK.append : ∀ {l m : List (D × D)} {xs ys : List (Key × V)}, RepK M F l xs → RepK M F m ys → RepK M F (l ++ m) (xs ++ ys)
  | [], _, _, _, h, t => by cases repK_nil.mp h; exact t
  | p :: l, _, _, _, h, t => by
    obtain ⟨q, v, r, rfl, h1, h2, h3⟩ := repK_cons.mp h
    exact repK_cons.mpr ⟨q, v, _, rfl, h1, h2, RepK.append h3 t⟩
theorem RepT.append : ∀ {l m : List (D × D)} {xs ys : List (List Key × V)}, RepT M F l xs → RepT M F m ys → RepT M F (l ++ m) (xs ++ ys)
  | [], _, _, _, h, t => by cases repT_nil.mp h; exact t
  | p :: l, _, _, _, h, t => by
    obtain ⟨q, v, r, rfl, h1, h2, h3⟩ := repT_cons.mp h
    exact repT_cons.mpr ⟨q, v, _, rfl, h1, h2, RepT.append h3 t⟩
theorem RepK.any (k : Key) : ∀ {l : List (D × D)} {xs : List (Key × V)}, RepK M F l xs → (l.any fun p => p.1.eq (kD k)) = xs.any fun kv => decide (kv.1 = k)
  | [], _, h => by cases repK_nil.mp h; rfl
  | p :: l, _, h => by
    obtain ⟨q, v, r, rfl, ⟨h1, _⟩, h2, h3⟩ := repK_cons.mp h
    rw [List.any_cons, List.any_cons, h1, key_eq, RepK.any k h3]
theorem RepT.any (k : List Key) : ∀ {l : List (D × D)} {xs : List (List Key × V)}, RepT M F l xs → (l.any fun p => p.1.eq (.tup (k.map kD))) = xs.any fun kv => decide (kv.1 = k)
  | [], _, h => by cases repT_nil.mp h; rfl
  | p :: l, _, h => by
    obtain ⟨q, v, r, rfl, ⟨h1, _⟩, h2, h3⟩ := repT_cons.mp h
    rw [List.any_cons, List.any_cons, h1, keyT_eq, RepT.any k h3]
theorem RepK.repl (k : Key) {y : V} {d : D} (ry : Rep M F d y) : ∀ {l : List (D × D)} {xs : List (Key × V)}, RepK M F l xs → RepK M F (l.map fun p => if p.1.eq (kD k) = true then (p.1, d) else p) (xs.map fun kv => if kv.1 = k then (kv.1, y) else kv)
  | [], _, h => by cases repK_nil.mp h; exact repK_nil.mpr rfl
  | p :: l, _, h => by
    obtain ⟨q, v, r, rfl, ⟨h1, h0⟩, h2, h3⟩ := repK_cons.mp h
    rw [List.map_cons, List.map_cons]
    by_cases e : q = k
    · have e1 : p.1.eq (kD k) = true := by rw [h1, key_eq]; exact decide_eq_true e
      rw [if_pos e1, if_pos e]
      exact repK_cons.mpr ⟨q, y, _, rfl, ⟨h1, h0⟩, ry, RepK.repl k ry h3⟩
    · have e1 : ¬ p.1.eq (kD k) = true := by rw [h1, key_eq, decide_eq_false e]; decide
      rw [if_neg e1, if_neg e]
      exact repK_cons.mpr ⟨q, v, _, rfl, ⟨h1, h0⟩, h2, RepK.repl k ry h3⟩
theorem RepT.repl (k : List Key) {y : V} {d : D} (ry : Rep M F d y) : ∀ {l : List (D × D)} {xs : List (List Key × V)}, RepT M F l xs → RepT M F (l.map fun p => if p.1.eq (.tup (k.map kD)) = true then (p.1, d) else p) (xs.map fun kv => if kv.1 = k then (kv.1, y) else kv)
  | [], _, h => by cases repT_nil.mp h; exact repT_nil.mpr rfl
  | p :: l, _, h => by
    obtain ⟨q, v, r, rfl, ⟨h1, h0⟩, h2, h3⟩ := repT_cons.mp h
    rw [List.map_cons, List.map_cons]
    by_cases e : q = k
    · have e1 : p.1.eq (.tup (k.map kD)) = true := by rw [h1, keyT_eq]; exact decide_eq_true e
      rw [if_pos e1, if_pos e]
      exact repT_cons.mpr ⟨q, y, _, rfl, ⟨h1, h0⟩, ry, RepT.repl k ry h3⟩
    · have e1 : ¬ p.1.eq (.tup (k.map kD)) = true := by rw [h1, keyT_eq, decide_eq_false e]; decide
      rw [if_neg e1, if_neg e]
      exact repT_cons.mpr ⟨q, v, _, rfl, ⟨h1, h0⟩, h2, RepT.repl k ry h3⟩
theorem RepK.put {l : List (D × D)} {xs : List (Key × V)} (k : Key) (hk : kOk k = true) {y : V} {d : D} (ry : Rep M F d y) (h : RepK M F l xs) : RepK M F (dput l (kD k) d) (putK xs k y) := by
  unfold dput putK
  rw [h.any k]
  split
  · exact h.repl k ry
  · exact h.append (repK_cons.mpr ⟨k, y, [], rfl, ⟨rfl, hk⟩, ry, repK_nil.mpr rfl⟩)
theorem RepT.put {l : List (D × D)} {xs : List (List Key × V)} (k : List Key) (hk : k.all kOk = true) {y : V} {d : D} (ry : Rep M F d y) (h : RepT M F l xs) : RepT M F (dput l (.tup (k.map kD)) d) (putK xs k y) := by
  unfold dput putK
  rw [h.any k]
  split
  · exact h.repl k ry
  · exact h.append (repT_cons.mpr ⟨k, y, [], rfl, ⟨rfl, hk⟩, ry, repT_nil.mpr rfl⟩)
theorem RepK.drop (k : Key) : ∀ {l : List (D × D)} {xs : List (Key × V)}, RepK M F l xs → RepK M F (ddrop l (kD k)) (dropK xs k)
  | [], _, h => by cases repK_nil.mp h; exact repK_nil.mpr rfl
  | p :: l, _, h => by
    obtain ⟨q, v, r, rfl, ⟨h1, h0⟩, h2, h3⟩ := repK_cons.mp h
    have ih := RepK.drop k h3
    unfold ddrop dropK at ih ⊢
    rw [List.filter_cons, List.filter_cons, h1, key_eq]
    by_cases e : q = k
    · have e1 : ¬ (!decide (q = k)) = true := by rw [decide_eq_true e]; decide
      have e2 : ¬ decide ((q, v).1 ≠ k) = true := by simp [e]
      rw [if_neg e1, if_neg e2]; exact ih
    · have e1 : (!decide (q = k)) = true := by rw [decide_eq_false e]; decide
      have e2 : decide ((q, v).1 ≠ k) = true := by simp [e]
      rw [if_pos e1, if_pos e2]
      exact repK_cons.mpr ⟨q, v, _, rfl, ⟨h1, h0⟩, h2, ih⟩
/-- a key's value -/
theorem kv_rep {k : Key} {v : V} (h : Rep M F (kD k) v) : v = kV k ∧ kOk k = true := by
  cases k with
  | inl i => exact ⟨rep_int.mp h, rfl⟩
  | inr x => obtain ⟨e, h2⟩ := rep_str.mp h; exact ⟨e, h2⟩
theorem kvs_rep : ∀ {ks : List Key} {xs : List V}, Reps M F (ks.map kD) xs → xs = ks.map kV ∧ ks.all kOk = true
  | [], _, h => by cases reps_nil.mp h; exact ⟨rfl, rfl⟩
  | k :: ks, _, h => by
    obtain ⟨v, r, rfl, h1, h2⟩ := reps_cons.mp h
    obtain ⟨rfl, e1⟩ := kv_rep h1
    obtain ⟨rfl, e2⟩ := kvs_rep h2
    exact ⟨rfl, by rw [List.all_cons, e1, e2]; rfl⟩
theorem key1 {H : Hp} {d : D} {k : Key} {v : V} (h : Rep1 M F H d v) (e : d.key = some k) : d = kD k ∧ v = kV k ∧ kOk k = true := by
  have z := key_kD e
  subst z
  cases k with
  | inl i => exact ⟨rfl, r1_int h, rfl⟩
  | inr x => exact ⟨rfl, (r1_str h).1, (r1_str h).2⟩
theorem keyT1 {H : Hp} {d : D} {ks : List Key} {v : V} (h : Rep1 M F H d v) (e : d.keyT = some ks) : d = .tup (ks.map kD) ∧ (∃ b, v = .ref b ∧ F b = some (.tup (ks.map kV))) ∧ ks.all kOk = true := by
  obtain ⟨n, z⟩ := keyT_kD e
  subst z
  obtain ⟨a, xs, rfl, h1, h2⟩ := r1_tupS h fun z => n (List.map_eq_nil_iff.mp z)
  obtain ⟨rfl, ok⟩ := kvs_rep h2
  exact ⟨rfl, ⟨a, rfl, h1⟩, ok⟩
/-- what a dict (as data) holds at a key -/
def gGet : D → D → Option (Option D)
  | .dct l, k => match k.key with
    | some _ => some (dlook l k)
    | none => none
  | .dtt l, k => match k.keyT with
    | some _ => some (dlook l k)
    | none => none
  | _, _ => none
theorem get_DGet {H : Hp} {d1 d2 : D} {x y : V} {o : Option D} (sub : Ex F H) (r1 : Rep1 M F H d1 x) (r2 : Rep1 M F H d2 y) (e : gGet d1 d2 = some o) : ∃ a ov, x = .ref a ∧ DGet H a y ov ∧ RO M F o ov := by
  unfold gGet at e
  split at e
  · rename_i l k
    split at e
    · rename_i k' hk
      cases e
      obtain ⟨rfl, rfl, _⟩ := key1 r2 hk
      obtain ⟨a, kvs, rfl, h1, h2⟩ := r1
      exact ⟨a, valV kvs k', rfl, .inl ⟨kvs, k', h1, rfl, rfl⟩, h2.look k'⟩
    · cases e
  · rename_i l k
    split at e
    · rename_i k' hk
      cases e
      obtain ⟨rfl, ⟨b, rfl, hb⟩, _⟩ := keyT1 r2 hk
      obtain ⟨a, kvs, rfl, h1, h2⟩ := r1
      exact ⟨a, valV kvs k', rfl, .inr ⟨kvs, k', b, h1, rfl, sub _ _ hb, rfl⟩, h2.look k'⟩
    · cases e
  · cases e
end
def D.flat : D → Bool
  | .non | .bl _ | .int _ | .str _ => true
  | _ => false
/-- x in y -/
def inD (a b : D) : Option Bool :=
  match b with
  | .lst l => if (a.eqs && (D.lst l).eqs) = true then some (l.any fun z => z.eq a) else none
  | .tup l => if (a.flat && l.all D.flat) = true then some (l.any fun z => z.eq a) else none
  | .str z => match a with
    | .str c => (match c.cps.toList with
      | [n] => some (decide (n ∈ z.cps.toList))
      | _ => none)
    | _ => none
  | b => match gGet b a with
    | some o => some o.isSome
    | none => none
def gIn (a b : D) : Option AV := (inD a b).map fun k => .dat (.bl k)
def gNin (a b : D) : Option AV := (inD a b).map fun k => .dat (.bl (!k))
section
variable {X : Cx}
end
theorem RO.isSome {M : Md} {F : Hp} {o : Option D} {v : Option V} (h : RO M F o v) : v.isSome = o.isSome := by
  cases o <;> cases v <;> first | rfl | exact h.elim
def gIx : D → D → Option AV
  | .lst l, .int i => (atI l i).map .dat
  | .tup l, .int i => (atI l i).map .dat
  | .fz l, .int i => (atI l i).map .dat
  | .str z, .int i => if z.length ≤ sizeLine then (atI z.cps.toList i).map fun c => .dat (.str ⟨#[c]⟩) else none
  | d, k => match gGet d k with
    | some (some v) => some (.dat v)
    | _ => none
def rDIx : R2 := fun x y H Q => ∃ a v, x = .ref a ∧ DGet H a y (some v) ∧ Q v H
def rIxA (K : PySem.W.Frag) : R2 := fun x y H Q => rIx K x y H Q ∨ rDIx x y H Q
theorem ix_dict {X : Cx} (hu : X.A.units + 65 < cLine) : IxR X rDIx := by
  intro value slice pins s σ H x y v u Q I rx ry h hs
  obtain ⟨a, w, rfl, g, q⟩ := h
  obtain rfl : v = Value.ref a := rx
  have hT := dict_typeIs I g
  have hl := PySem.F.slot_dict_getitem.lookup
  unfold subscriptTail
  refine wpAny_bind ?_
  rw [getitemInPython_of_ne hT.not_modules]
  refine wpAny_bind (wpAny_specialOf hT hl ?_)
  have h2 := d_getItem (A := X.A) (E := X.xe) (Q := EP X pins σ Q) (show X.A.units + 1 < cLine by omega) I g ry fun w' s3 I3 rw' => ⟨w, H, I3, rw', q⟩
  have fin : wpAny (model X.prog X.w) X.A (subscripted slice false (.ref a) u) (fun r s₃ => wpAny (model X.prog X.w) X.A (letTemporaryGo value (.ref a) r >>= fun _ => pure r) (EP X pins σ Q) X.xe s₃) X.xe s := by
    rw [hs]
    exact wpAny_operating (wpAny_mono h2 (fun r s₃ h₃ => wpAny_bind (wpAny_letTemporaryGo (wpAny_pure h₃))) fun _ _ x => x)
  first
    | exact wpAny_pure (wpAny_bind fin)
    | exact wpAny_bind (wpAny_pure (wpAny_bind fin))
    | exact wpAny_bind fin
theorem ix_A {X : Cx} (hu : X.A.units + 65 < cLine) : IxR X (rIxA X.K) := ix_seq.or (ix_dict hu)
theorem atI_reps {M : Md} {F : Hp} {l : List D} {xs : List V} {i : Int} {d : D} (h : Reps M F l xs) (e : atI l i = some d) : ∃ v, atI xs i = some v ∧ Rep M F d v := by
  unfold atI at e ⊢
  rw [h.length]
  obtain ⟨j, h1, h2⟩ := Option.bind_eq_some_iff.mp e
  obtain ⟨v, h3, h4⟩ := h.get h2
  exact ⟨v, by rw [h1]; exact h3, h4⟩
theorem strOk_mem {z : Str} {n : Nat} (h : PyData.strOk z = true) (m : n ∈ z.cps.toList) : PyData.strOk ⟨#[n]⟩ = true := by
  have h2 : z.cps.all (· < 0x110000) = true := h
  rw [Array.all_eq_true_iff_forall_mem] at h2
  have h3 := h2 n (by simpa using m)
  show (#[n]).all _ = true
  simpa using h3
theorem strOk_sub {z w : Str} (h : PyData.strOk z = true) (m : ∀ n ∈ w.cps.toList, n ∈ z.cps.toList) : PyData.strOk w = true := by
  have h2 : z.cps.all (· < 0x110000) = true := h
  rw [Array.all_eq_true_iff_forall_mem] at h2
  show w.cps.all _ = true
  rw [Array.all_eq_true_iff_forall_mem]
  intro n hn
  exact h2 n (by simpa using m n (by simpa using hn))
theorem atI_mem {α : Type} {xs : List α} {i : Int} {v : α} (h : atI xs i = some v) : v ∈ xs := by
  obtain ⟨j, _, h2, _⟩ := atI_get h
  exact List.mem_of_getElem? h2
theorem o2_ix {M : Md} : O2 M (rIxA M.K) gIx := by
  intro F H x y d1 d2 av Q sub r1 r2 e h
  unfold gIx at e
  split at e
  · rename_i l i
    obtain ⟨d, e1, rfl⟩ := Option.map_eq_some_iff.mp e
    cases r1_int r2
    obtain ⟨a, xs, rfl, h1, h2⟩ := r1_lst r1
    obtain ⟨v, h3, h4⟩ := atI_reps h2 e1
    exact .inl (.inl ⟨a, xs, i, v, rfl, rfl, SqL.of h1, h3, fin_dat sub h h4⟩)
  · rename_i l i
    obtain ⟨d, e1, rfl⟩ := Option.map_eq_some_iff.mp e
    cases r1_int r2
    obtain ⟨a, xs, rfl, h1, h2⟩ := r1_tup r1
    obtain ⟨v, h3, h4⟩ := atI_reps h2 e1
    exact .inl (.inr (.inl ⟨a, xs, i, v, rfl, rfl, Evl.ex_t sub h1, h3, fin_dat sub h h4⟩))
  · rename_i l i
    obtain ⟨d, e1, rfl⟩ := Option.map_eq_some_iff.mp e
    cases r1_int r2
    obtain ⟨a, xs, rfl, h1, h2⟩ := r1_fz r1
    obtain ⟨v, h3, h4⟩ := atI_reps h2 e1
    exact .inl (.inl ⟨a, xs, i, v, rfl, rfl, Evl.ex_l sub h1, h3, fin_dat sub h h4⟩)
  · rename_i z i
    split at e
    · rename_i hl
      obtain ⟨n, e1, rfl⟩ := Option.map_eq_some_iff.mp e
      cases r1_int r2
      obtain ⟨rfl, ok⟩ := r1_str r1
      exact .inl (.inr (.inr ⟨z, i, n, rfl, rfl, hl, e1, fin_dat sub h (rep_str.mpr ⟨rfl, strOk_mem ok (atI_mem e1)⟩)⟩))
    · cases e
  · split at e
    · rename_i v hg
      cases e
      obtain ⟨p, ov, rfl, g, ro⟩ := get_DGet sub r1 r2 hg
      cases ov with
      | none => exact ro.elim
      | some w => exact .inr ⟨p, w, rfl, g, fin_dat sub h ro⟩
    · cases e
end Nv
-- N6
namespace Nv
open PySem PySem.Spec PyProof.Rows L2
open Evl (Ex)
theorem reps1_1 {M : Md} {F H : Hp} {d : D} {vs : List V} (h : reps1 M F H [d] vs) : ∃ v, vs = [v] ∧ Rep1 M F H d v := by
  match vs, h with
  | [v], h => exact ⟨v, rfl, h.1⟩
theorem reps1_2 {M : Md} {F H : Hp} {d e : D} {vs : List V} (h : reps1 M F H [d, e] vs) : ∃ v w, vs = [v, w] ∧ Rep1 M F H d v ∧ Rep1 M F H e w := by
  match vs, h with
  | [v, w], h => exact ⟨v, w, rfl, h.1, h.2.1⟩
/-- one operand -/
def gA1 (g : D → Option AV) : List D → Option AV
  | [d] => g d
  | _ => none
def gA2 (g : D → D → Option AV) : List D → Option AV
  | [d, e] => g d e
  | _ => none
theorem opS1 {M : Md} {r : List V → Hp → VK → Prop} {g : D → Option AV} (h : ∀ F H x d av Q, Ex F H → Rep1 M F H d x → g d = some av → Nv.Fin M F H av Q → r [x] H Q) : OpS M r (gA1 g) := by
  intro F H vs ds av Q sub rs e k
  unfold gA1 at e
  split at e
  · obtain ⟨v, rfl, r1⟩ := reps1_1 rs
    exact h F H v _ av Q sub r1 e k
  · cases e
theorem opS2 {M : Md} {r : List V → Hp → VK → Prop} {g : D → D → Option AV} (h : ∀ F H x y d1 d2 av Q, Ex F H → Rep1 M F H d1 x → Rep1 M F H d2 y → g d1 d2 = some av → Nv.Fin M F H av Q → r [x, y] H Q) : OpS M r (gA2 g) := by
  intro F H vs ds av Q sub rs e k
  unfold gA2 at e
  split at e
  · obtain ⟨v, w, rfl, r1, r2⟩ := reps1_2 rs
    exact h F H v w _ _ av Q sub r1 r2 e k
  · cases e
def gLen : D → Option AV
  | .lst l => some (.dat (.int l.length))
  | .tup l => some (.dat (.int l.length))
  | .fz l => some (.dat (.int l.length))
  | .dct l => some (.dat (.int l.length))
  | .dtt l => some (.dat (.int l.length))
  | .str s => if s.length ≤ sizeLine then some (.dat (.int s.length)) else none
  | _ => none
def rLenA (K : PySem.W.Frag) : List V → Hp → VK → Prop := fun xs H Q => (∃ x n, xs = [x] ∧ LenV K x H n ∧ Q (.int n) H) ∨ (∃ p, xs = [.ref p] ∧ ((∃ kvs : List (Key × V), Rd H p (.dK kvs) ∧ Q (.int ((kvs.length : Nat) : Int)) H) ∨ ∃ kvs : List (List Key × V), Rd H p (.dT kvs) ∧ Q (.int ((kvs.length : Nat) : Int)) H))
theorem call_lenD2 {X : Cx} : CallR X (.builtin "len") (fun xs H Q => ∃ p, xs = [.ref p] ∧ ((∃ kvs : List (Key × V), Rd H p (.dK kvs) ∧ Q (.int ((kvs.length : Nat) : Int)) H) ∨ ∃ kvs : List (List Key × V), Rd H p (.dT kvs) ∧ Q (.int ((kvs.length : Nat) : Int)) H)) := by
  intro pins s σ H xs us Q I r h
  obtain ⟨p, rfl, h⟩ := h
  obtain ⟨u, rfl, rx⟩ := vals1 r
  obtain rfl : u = .ref p := rx
  rcases h with ⟨kvs, hp, q⟩ | ⟨kvs, hp, q⟩
  · exact d_len I hp fun t s' I' => ⟨.int _, H, I', ⟨t, rfl⟩, q⟩
  · obtain ⟨z, hd, ys, rel, dd⟩ := dt_rd I.hok hp
    have hl : kvs.length = ys.length := Paired.length rel
    have h63 := line63
    exact call_len_dictH hd dd (by omega) ⟨.int _, H, I.tok _, (by rw [hl]; exact ⟨_, rfl⟩), q⟩
theorem call_lenA {X : Cx} : CallR X (.builtin "len") (rLenA X.K) := call_len.or call_lenD2
theorem os_len {M : Md} : OpS M (rLenA M.K) (gA1 gLen) := opS1 fun F H x d av Q sub r1 e h => by
  unfold gLen at e
  split at e
  · cases e
    obtain ⟨a, xs, rfl, h1, h2⟩ := r1_lst r1
    exact .inl ⟨_, _, rfl, .inl ⟨xs, SqL.of h1, rfl⟩, by rw [h2.length]; exact fin_dat sub h (rep_int.mpr rfl)⟩
  · cases e
    obtain ⟨a, xs, rfl, h1, h2⟩ := r1_tup r1
    exact .inl ⟨_, _, rfl, .inr ⟨xs, Evl.ex_t sub h1, rfl⟩, by rw [h2.length]; exact fin_dat sub h (rep_int.mpr rfl)⟩
  · cases e
    obtain ⟨a, xs, rfl, h1, h2⟩ := r1_fz r1
    exact .inl ⟨_, _, rfl, .inl ⟨xs, Evl.ex_l sub h1, rfl⟩, by rw [h2.length]; exact fin_dat sub h (rep_int.mpr rfl)⟩
  · cases e
    obtain ⟨a, kvs, rfl, h1, h2⟩ := r1
    exact .inr ⟨a, rfl, .inl ⟨kvs, h1, by rw [h2.length]; exact fin_dat sub h (rep_int.mpr rfl)⟩⟩
  · cases e
    obtain ⟨a, kvs, rfl, h1, h2⟩ := r1
    exact .inr ⟨a, rfl, .inr ⟨kvs, h1, by rw [h2.length]; exact fin_dat sub h (rep_int.mpr rfl)⟩⟩
  · split at e
    · rename_i hl
      cases e
      obtain ⟨rfl, _⟩ := r1_str r1
      exact .inl ⟨_, _, rfl, ⟨hl, rfl⟩, fin_dat sub h (rep_int.mpr rfl)⟩
    · cases e
  · cases e
def gInt : D → Option AV
  | .int i => some (.dat (.int i))
  | .bl b => some (.dat (.int (if b then 1 else 0)))
  | .str s => if s.length ≤ 640 then (intText? s).map fun n => .dat (.int n) else none
  | _ => none
def rIntA : List V → Hp → VK → Prop := fun xs H Q => ((∃ i, xs = [.int i] ∧ Q (.int i) H) ∨ ∃ k, xs = [.bl k] ∧ Q (.int (if k then 1 else 0)) H) ∨ ∃ a n, xs = [.str a] ∧ PySem.intText? a = some n ∧ a.length ≤ 640 ∧ Q (.int n) H
theorem call_intA {X : Cx} : CallR X (.type "int") rIntA := call_int1.or call_int_str
theorem os_int {M : Md} : OpS M rIntA (gA1 gInt) := opS1 fun F H x d av Q sub r1 e h => by
  unfold gInt at e
  split at e
  · cases e
    cases r1_int r1
    exact .inl (.inl ⟨_, rfl, fin_dat sub h (rep_int.mpr rfl)⟩)
  · cases e
    cases r1_bl r1
    exact .inl (.inr ⟨_, rfl, fin_dat sub h (rep_int.mpr rfl)⟩)
  · split at e
    · rename_i hl
      obtain ⟨n, e1, rfl⟩ := Option.map_eq_some_iff.mp e
      obtain ⟨rfl, _⟩ := r1_str r1
      exact .inr ⟨_, n, rfl, e1, hl, fin_dat sub h (rep_int.mpr rfl)⟩
    · cases e
  · cases e
def gList : D → Option AV
  | .lst l => some (.own (.lst l))
  | .tup l => some (.own (.lst l))
  | .fz l => some (.own (.lst l))
  | _ => none
theorem os_list {M : Md} : OpS M (fun xs H Q => ∃ p ys, xs = [.ref p] ∧ (SqL M.K H p ys ∨ SqT M.K H p ys) ∧ ∀ l, H l = none → Q (.ref l) (upd H l (.lst ys))) (gA1 gList) := opS1 fun F H x d av Q sub r1 e h => by
  unfold gList at e
  split at e
  · cases e
    obtain ⟨a, xs, rfl, h1, h2⟩ := r1_lst r1
    exact ⟨a, xs, rfl, .inl (SqL.of h1), fun l n => fin_lst sub h n h2⟩
  · cases e
    obtain ⟨a, xs, rfl, h1, h2⟩ := r1_tup r1
    exact ⟨a, xs, rfl, .inr (Evl.ex_t sub h1), fun l n => fin_lst sub h n h2⟩
  · cases e
    obtain ⟨a, xs, rfl, h1, h2⟩ := r1_fz r1
    exact ⟨a, xs, rfl, .inl (Evl.ex_l sub h1), fun l n => fin_lst sub h n h2⟩
  · cases e
def gTuple : D → Option AV
  | .lst l => some (.dat (.tup l))
  | .tup l => some (.dat (.tup l))
  | .fz l => some (.dat (.tup l))
  | _ => none
theorem os_tuple {M : Md} : OpS M (fun xs H Q => ∃ p ys, xs = [.ref p] ∧ ((SqL M.K H p ys ∧ ∀ l, H l = none → Q (.ref l) (upd H l (.tup ys))) ∨ (SqT M.K H p ys ∧ Q (.ref p) H))) (gA1 gTuple) := opS1 fun F H x d av Q sub r1 e h => by
  unfold gTuple at e
  split at e
  · cases e
    obtain ⟨a, xs, rfl, h1, h2⟩ := r1_lst r1
    exact ⟨a, xs, rfl, .inl ⟨SqL.of h1, fun l n => fin_tup sub h n h2⟩⟩
  · cases e
    have r2 := r1
    obtain ⟨a, xs, rfl, h1, h2⟩ := r1_tup r1
    exact ⟨a, xs, rfl, .inr ⟨Evl.ex_t sub h1, fin_dat sub h r2⟩⟩
  · cases e
    obtain ⟨a, xs, rfl, h1, h2⟩ := r1_fz r1
    exact ⟨a, xs, rfl, .inl ⟨Evl.ex_l sub h1, fun l n => fin_tup sub h n h2⟩⟩
  · cases e
def gI2 (f : Int → Int → Int) : D → D → Option AV
  | .int i, .int j => some (.dat (.int (f i j)))
  | _, _ => none
theorem os_I2 {M : Md} {f : Int → Int → Int} : OpS M (fun xs H Q => ∃ i j, xs = [.int i, .int j] ∧ Q (.int (f i j)) H) (gA2 (gI2 f)) := opS2 fun F H x y d1 d2 av Q sub r1 r2 e h => by
  unfold gI2 at e
  split at e
  · cases e
    cases r1_int r1
    cases r1_int r2
    exact ⟨_, _, rfl, fin_dat sub h (rep_int.mpr rfl)⟩
  · cases e
section
variable {X : Cx} {c : Cf} {e a b d : Expr} {es rest : List Expr} {pos : Pos}
def dats : List OV → Option (List D)
  | [] => some []
  | .dat d :: r => (dats r).map (d :: ·)
  | _ => none
theorem dats_reps {M : Md} {σ : L2.St} {F : Hp} : ∀ {os : List OV} {ds : List D} {vs : List V}, dats os = some ds → ovsR M σ F vs os → Reps M F ds vs
  | [], ds, [], h, _ => by cases h; exact Reps.nil
  | [], _, _ :: _, _, h => h.elim
  | _ :: _, _, [], _, h => h.elim
  | o :: os, ds, v :: vs, h, hv => by
    unfold dats at h
    split at h
    · rename_i h'; cases h'
    · rename_i d r h'
      cases h'
      obtain ⟨ds', e1, rfl⟩ := Option.map_eq_some_iff.mp h
      exact Reps.cons hv.1 (dats_reps e1 hv.2)
    · cases h
def dispR (mk : List D → AV) (os : List OV) (Γ : Ev) : Rs AV :=
  match dats os with
  | some ds => if ds.length ≤ sizeLine then .ok (mk ds) Γ else .bad
  | none => .bad
def tupE (f : Ev → Rs (List OV)) : Ev → Rs AV := fun Γ => (f Γ).bind fun os Γ => dispR (fun ds => .dat (.tup ds)) os Γ
def lstE (f : Ev → Rs (List OV)) : Ev → Rs AV := fun Γ => (f Γ).bind fun os Γ => dispR (fun ds => .own (.lst ds)) os Γ
theorem do_tup {f : Ev → Rs (List OV)} {k : Nat} (h : DA X c es f) : DO X c (.Tuple es k pos) (tupE f) := by
  refine PE.of (pe_tup h) fun σ H Q ⟨F, Γ, r, q⟩ => ⟨F, Γ, r, ?_⟩
  refine (Po.bind (R := vrA c.M) q).imp fun vs H1 ⟨F1, Γ1, os, r1, e1, a1, q1⟩ => ?_
  unfold dispR at q1
  split at q1
  · rename_i ds hd
    split at q1
    · rename_i hl
      have hr := dats_reps hd a1
      refine ⟨by rw [hr.length]; exact hl, fun p n => ?_⟩
      have r2 := r1.newF (o := .tup vs) n
      exact q1 _ _ _ r2 (e1.trans (Ext.newF n (r1.fr n))) (show Rep c.M _ _ _ from rep_tup.mpr ⟨p, vs, rfl, .inl upd_same, hr.mono (Evl.Ex.new (r1.fr n))⟩)
    · exact q1.elim
  · exact q1.elim
theorem do_lst {f : Ev → Rs (List OV)} (h : DA X c es f) : DO X c (.List es pos) (lstE f) := by
  refine PE.of (pe_lst h) fun σ H Q ⟨F, Γ, r, q⟩ => ⟨F, Γ, r, ?_⟩
  refine (Po.bind (R := vrA c.M) q).imp fun vs H1 ⟨F1, Γ1, os, r1, e1, a1, q1⟩ => ?_
  unfold dispR at q1
  split at q1
  · rename_i ds hd
    split at q1
    · rename_i hl
      have hr := dats_reps hd a1
      refine ⟨by rw [hr.length]; exact hl, fun p n => ?_⟩
      have n2 : ¬ own σ Γ1 p := fun z => by
        obtain ⟨_, u, hu⟩ := r1.ownF z
        rw [n] at hu; cases hu
      have bk : own σ Γ p ∨ H p = none := e1.back (.inr n)
      exact q1 _ _ _ (r1.new n) (e1.trans (Ext.new n)) ⟨p, rfl, r1.fr n, n2, ⟨vs, upd_same, hr⟩, bk⟩
    · exact q1.elim
  · exact q1.elim
/-- *e in a list or a tuple -/
def starR (o : OV) (Γ : Ev) : Option (List D) :=
  match o.get Γ with
  | some (.lst l) => some l
  | some (.tup l) => some l
  | some (.fz l) => some l
  | _ => none
def starA (f : Ev → Rs OV) (g : Ev → Rs (List OV)) : Ev → Rs (List OV) := fun Γ => (f Γ).bind fun o Γ1 => match starR o Γ1 with
  | some l => (g Γ1).bind fun os Γ => .ok (l.map .dat ++ os) Γ
  | none => .bad
theorem ovs_of_reps {M : Md} {σ : L2.St} {F : Hp} : ∀ {l : List D} {xs : List V}, Reps M F l xs → ovsR M σ F xs (l.map .dat)
  | [], _, h => by cases reps_nil.mp h; trivial
  | d :: l, _, h => by
    obtain ⟨v, r, rfl, h1, h2⟩ := reps_cons.mp h
    exact ⟨h1, ovs_of_reps h2⟩
theorem ovs_append {M : Md} {σ : L2.St} {F : Hp} : ∀ {vs ws : List V} {os ps : List OV}, ovsR M σ F vs os → ovsR M σ F ws ps → ovsR M σ F (vs ++ ws) (os ++ ps)
  | [], _, [], _, _, h => h
  | [], _, _ :: _, _, h, _ => h.elim
  | _ :: _, _, [], _, h, _ => h.elim
  | _ :: _, _, _ :: _, _, h, h2 => ⟨h.1, ovs_append h.2 h2⟩
theorem star_rep {M : Md} {σ0 σ : L2.St} {F H : Hp} {Γ : Ev} (r : Rel M σ0 F H σ Γ) {o : OV} {l : List D} {v : V} (h : starR o Γ = some l) (hv : ovR M σ F v o) : ∃ p xs, v = .ref p ∧ (SqT M.K H p xs ∨ SqL M.K H p xs) ∧ Reps M F l xs := by
  unfold starR at h
  split at h
  · rename_i l' e; cases h
    obtain ⟨a, xs, rfl, h1, h2⟩ := r1_lst (get_rep r e hv)
    exact ⟨a, xs, rfl, .inr (SqL.of h1), h2⟩
  · rename_i l' e; cases h
    obtain ⟨a, xs, rfl, h1, h2⟩ := r1_tup (get_rep r e hv)
    exact ⟨a, xs, rfl, .inl (Evl.ex_t r.sub h1), h2⟩
  · rename_i l' e; cases h
    obtain ⟨a, xs, rfl, h1, h2⟩ := r1_fz (get_rep r e hv)
    exact ⟨a, xs, rfl, .inr (Evl.ex_l r.sub h1), h2⟩
  · cases h
theorem da_star {p : Pos} {f : Ev → Rs OV} {g : Ev → Rs (List OV)} (hM : c.M = ⟨X.K, X.mg⟩) (h1 : DB X c e f) (h2 : DA X c es g) (hs : starEach (.Starred e p :: es) X.env = (true, eval e X.env) :: starEach es X.env := by rfl) : DA X c (.Starred e p :: es) (starA f g) := by
  refine PA.of (StX.pa_star h1 h2 hs) fun σ H Q ⟨F, Γ, r, q⟩ => ⟨F, Γ, r, ?_⟩
  refine (Po.bind (R := vrB c.M) q).imp fun v H1 ⟨F1, Γ1, o, r1, e1, a1, q1⟩ => ?_
  split at q1
  · rename_i l hl
    obtain ⟨p, xs, rfl, h3, h4⟩ := star_rep r1 hl a1
    have h5 : SqT X.K H1 p xs ∨ SqL X.K H1 p xs := by rw [hM] at h3; exact h3
    refine ⟨p, xs, rfl, h5, F1, Γ1, r1, ?_⟩
    refine (Po.bind (R := vrA c.M) (Po.shift sh_A e1 q1)).imp fun vs H2 ⟨F2, Γ2, os, r2, e2, a2, q2⟩ => ?_
    exact q2 F2 H2 (xs ++ vs) r2 e2 (ovs_append (ovs_of_reps (h4.mono e2.ff)) a2)
  · exact q1.elim
def gFld (f : Str) (cs : List Str) : D → Option AV
  | .ins n l => if n ∈ cs then (l.lookup f).map .dat else none
  | _ => none
/-- f is a field of instances of these classes -/
def FldOk (M : Md) (f : Str) (cs : List Str) : Prop := ∀ n ∈ cs, ∀ C, M.mg n = some (.ref C) → Cls M.K C ∧ NoAttr M.K C f
theorem repF_nil {M : Md} {F : Hp} {xs : List (Str × V)} : RepF M F [] xs ↔ xs = [] := by unfold RepF; exact Iff.rfl
theorem repF_cons {M : Md} {F : Hp} {p : Str × D} {l : List (Str × D)} {xs : List (Str × V)} : RepF M F (p :: l) xs ↔ ∃ v r, xs = (p.1, v) :: r ∧ Rep M F p.2 v ∧ RepF M F l r := by rw [RepF]
theorem RepF.look {M : Md} {F : Hp} {f : Str} {d : D} : ∀ {l : List (Str × D)} {xs : List (Str × V)}, RepF M F l xs → l.lookup f = some d → ∃ v, xs.lookup f = some v ∧ Rep M F d v
  | [], _, h, e => by cases e
  | p :: l, _, h, e => by
    obtain ⟨v, r, rfl, h1, h2⟩ := repF_cons.mp h
    obtain ⟨k, d'⟩ := p
    rw [List.lookup_cons] at e ⊢
    cases q : f == k with
    | true =>
      rw [q] at e
      cases e
      exact ⟨v, rfl, h1⟩
    | false =>
      rw [q] at e
      exact RepF.look h2 e
theorem do_fld {f : Str} {cs : List Str} {g : Ev → Rs OV} (ho : FldOk ⟨X.K, X.mg⟩ f cs) (hM : c.M = ⟨X.K, X.mg⟩) (h : DB X c e g) (hb : attributeBase e f X.env (eval e X.env) = eval e X.env := by rfl) : DO X c (.Attribute e f pos) (op1 (gFld f cs) g) := by
  refine PE.of (pe_fld h hb) fun σ H Q q => ?_
  refine rd_op1 (r := fun x H1 Q => ∃ a C dx fs v, x = .ref a ∧ H1 a = some (.ins C dx fs) ∧ Cls X.K C ∧ NoAttr X.K C f ∧ fs.lookup f = some v ∧ Q v H1) ?_ q
  intro F H x d av Q sub r1 e h
  unfold gFld at e
  split at e
  · rename_i n l
    split at e
    · rename_i hn
      obtain ⟨d, e1, rfl⟩ := Option.map_eq_some_iff.mp e
      obtain ⟨a, C, dx, fs, rfl, h1, h2, h3⟩ := r1
      rw [hM] at h1
      obtain ⟨k1, k2⟩ := ho n hn C h1
      obtain ⟨v, h4, h5⟩ := h3.look e1
      exact ⟨a, C, dx, fs, v, rfl, h2, k1, k2, h4, fin_dat sub h h5⟩
    · cases e
  · cases e
end
end Nv
-- N7
namespace Nv
open PySem PySem.Spec PyProof.Rows L2
open Evl (Ex)
def chV (z : Str) : List V := z.cps.toList.map fun c => .str ⟨#[c]⟩
/-- G: the source stands as xs -/
inductive SeqG (K : PySem.W.Frag) : V → List V → (Hp → Prop) → Prop where
  | l (a : Addr) (xs : List V) : SeqG K (.ref a) xs fun H => SqL K H a xs
  | t (a : Addr) (xs : List V) : SeqG K (.ref a) xs fun H => SqT K H a xs
  | s (z : Str) : SeqG K (.str z) (chV z) fun _ => True
theorem SeqG.mono {K : PySem.W.Frag} {x : V} {xs : List V} {G : Hp → Prop} (h : SeqG K x xs G) {H H' : Hp} (g : G H) (e : Ex H H') : G H' := by
  cases h with
  | l a xs => exact Evl.ex_l e g
  | t a xs => exact Evl.ex_t e g
  | s z => trivial
theorem chV_len (z : Str) : (chV z).length = z.cps.size := by unfold chV; simp
theorem walk_chV {z : Str} : Walk (Its z) (chV z).length (fun _ => True) (YAt (chV z)) := by
  rw [chV_len]
  refine walk_str.mono (fun _ h => h) fun i H x H' _ _ ⟨h1, c, h2, h3⟩ => ⟨h1, ?_⟩
  unfold chV
  rw [List.getElem?_map, Array.getElem?_toList, h2, h3]
  rfl
/-- .. or a locked dict, by its keys -/
inductive SeqG2 (K : PySem.W.Frag) : V → List V → (Hp → Prop) → Prop where
  | q {x : V} {xs : List V} {G : Hp → Prop} (h : SeqG K x xs G) : SeqG2 K x xs G
  | d (a : Addr) (od : Obj) (kvs : List (Key × V)) : SeqG2 K (.ref a) (kvs.map fun kv => kV kv.1) fun H => H a = some (.frz od (.dK kvs))
def iSeq2 (K : PySem.W.Frag) (tl : TE) : TI := fun σ H R => tl σ H fun x H1 => ∃ xs G, SeqG2 K x xs G ∧ G H1 ∧ ∀ J, Walk J xs.length G (YAt xs) → R J H1
theorem walk_keysA {d : Addr} {o : Obj} {kvs : List (Key × V)} : Walk (Itk d o kvs) (kvs.map fun kv => kV kv.1).length (fun H => H d = some (.frz o (.dK kvs))) (YAt (kvs.map fun kv => kV kv.1)) := by
  rw [List.length_map]
  refine walk_keys.mono (fun _ h => h) fun i H x H' _ _ ⟨h1, k, v, h2, h3⟩ => ⟨h1, ?_⟩
  rw [List.getElem?_map, h2, h3]
  rfl
theorem pi_seq2 {X : Cx} {tg e : Expr} {te : TE} (he : PE X e te) : PI X tg e (iSeq2 X.K te) := by
  refine ⟨fun pins s σ H R I h => ?_⟩
  refine thn (he.run pins s σ H _ I h) fun v s1 ⟨y, H1, I1, r1, xs, G, sg, g, q⟩ => ?_
  cases sg with
  | q sg =>
    cases sg with
    | l a xs =>
      cases r1
      obtain ⟨its, rv, p, hz⟩ := I1.list g
      refine wpAny_pyIter_list p.isList ?_
      exact pi_one (tk := s1.toks) I1 _ (turn_list a _) ⟨_, Heap.get?_push_size _ rfl, rfl, rfl⟩ (q _ walk_list)
    | t a xs =>
      cases r1
      obtain ⟨its, rv, p, hz⟩ := I1.tuple g
      refine wpAny_pyIter_tuple (show s1.heap.IsTuple a its.toArray from p) ?_
      exact pi_one (tk := s1.toks) I1 _ (turn_tuple a _) ⟨_, Heap.get?_push_size _ rfl, rfl, rfl⟩ (q _ walk_tup)
    | s z =>
      obtain ⟨t, rfl⟩ := r1
      cases ha : z.cps.all (· < 128)
      · exact wpAny_pyIter_wide ha (pi_one (tk := s1.toks) I1 _ (turn_str _ z t "str_iterator" (.inr rfl)) ⟨_, Heap.get?_push_size _ rfl, rfl, rfl⟩ (q _ walk_chV))
      · exact wpAny_pyIter_ascii ha (pi_one (tk := s1.toks) I1 _ (turn_str _ z t "str_ascii_iterator" (.inl rfl)) ⟨_, Heap.get?_push_size _ rfl, rfl, rfl⟩ (q _ walk_chV))
  | d a od kvs =>
    cases r1
    obtain ⟨hs, hgd, hx, es, ep, vs, hdt, hsz, kv, hm⟩ := I1.frzK g
    refine iter_keys hs hgd hx hdt (pi_one (tk := s1.toks) I1 _ (turn_keys _ hdt) ⟨_, Heap.get?_push_size _ rfl, rfl, ?_⟩ (q _ walk_keysA))
    rw [hsz] <;> rfl
/-- what an inner iterator draws, told over the abstract heap -/
structure Inner (P : Program) (w : World) (K : PySem.W.Frag) (it : Addr) (G : Hp → Prop) (xs : List V) (tn : Nat → Heap → Prop) : Prop where
  obj : ∀ i h, tn i h → ∃ o, h.get? it = some o ∧ ∀ v, o.data ≠ .cell v
  keep : ∀ i h h', tn i h → (∀ o, h.get? it = some o → h'.get? it = some o) → tn i h'
  draws : ∀ (X : Cx), X.prog = P → X.w = w → X.K = K → X.calm = true → ∀ (pins : List (Addr × Obj)) (s : Shared) (σ : L2.St) (H : Hp), L2.Inv X pins σ H s → H it = none → G H → ∀ i, tn i s.heap →
    ∃ (fp : List Addr) (Pv : Nat → Value → Prop) (St : Nat → Heap → Prop), Draws P w X.A.in1 it fp xs.length Pv St ∧ (∀ b ∈ fp, b = it ∨ ∃ u, H b = some u ∨ K.lookup b ≠ none) ∧ St i s.heap ∧ (∀ i h, St i h → tn i h) ∧ ∀ i u, Pv i u → ∃ v, xs[i]? = some v ∧ RelV v u
def YEnum (k0 : Int) (xs : List V) : Nat → Hp → V → Hp → Prop := fun i H v H' => ∃ T x, v = .ref T ∧ H T = none ∧ H' = upd H T (.tup [.int (k0 + (i : Nat)), x]) ∧ xs[i]? = some x
def ItEn (k0 : Int) (G : Hp → Prop) (xs : List V) : It :=
  ⟨fun i H => i < xs.length ∧ G H, YEnum k0 xs, fun i H => i = xs.length ∧ G H⟩
theorem walkEn {k0 : Int} {G : Hp → Prop} {xs : List V} : Walk (ItEn k0 G xs) xs.length G (YEnum k0 xs) := ⟨fun i H hi h => ⟨hi, h⟩, fun H h => ⟨rfl, h⟩, fun i H v H' _ _ y => y⟩
theorem turn_enA {P : Program} {w : World} {K : PySem.W.Frag} {elts : List Expr} {kk : Nat} {tpos : Pos} {k0 : Int} {G : Hp → Prop} {xs : List V} {e it : Addr} {tn : Nat → Heap → Prop} (In : Inner P w K it G xs tn) :
    Turn P w K (.Tuple elts kk tpos) (ItEn k0 G xs) [e, it] e (fun i h => (∃ old, IsEnum h e it (k0 + (i : Nat)) old) ∧ tn i h ∧ e ≠ it) where
  mem := by simp
  obj := fun i h st b hb => by
    obtain ⟨⟨old, he⟩, ht, _⟩ := st
    have e' : b = e ∨ b = it := by simpa using hb
    rcases e' with z | z
    · rw [z]; exact ⟨_, he, fun v q => nomatch q⟩
    · rw [z]; exact In.obj i h ht
  keep := fun i h h' st k => let ⟨⟨old, he⟩, hi, hne⟩ := st; ⟨⟨old, k e (by simp) _ he⟩, In.keep i h h' hi fun o q => k it (by simp) o q, hne⟩
  item := by
    intro X hP hw hK hc i pins s σ H E I hf st hg
    obtain ⟨⟨old, he⟩, hit, hne⟩ := st
    obtain ⟨hi, hq⟩ := hg
    obtain ⟨fp, Pv, St, D, hfp, hst, hback, hval⟩ := In.draws X hP hw hK hc pins s σ H I (hf it (by simp)).1 hq i hit
    subst hP hw hK
    have hel : e < s.heap.objs.size := Heap.lt_size he
    have hil : it < s.heap.objs.size := by obtain ⟨o, q, _⟩ := In.obj i _ hit; exact Heap.lt_size q
    have heH : H e = none := (hf e (by simp)).1
    have hef : e ∉ fp := fun hm => by
      rcases hfp e hm with z | ⟨u, z | z⟩
      · exact hne z
      · rw [heH] at z; cases z
      · -- a written object is not ours
        have f := (hf e (by simp))
        cases hk : X.K.lookup e with
        | none => exact z hk
        | some o =>
          have hb := I.ok.mod.kin e o hk
          have h4 := f.2.2.2.1
          rcases h4 with h4 | h4
          · exact I.ok.noex e o hb h4
          · have := Heap.lt_size hb
            exact absurd (Nat.lt_of_lt_of_le this (Nat.le_trans I.ok.bsz h4)) (Nat.lt_irrefl _)
    refine wpAny_pyNext_enum_itemC D he hst hi hne hef fun xv h' tk hPx ho hst' hT hsz hk => ?_
    obtain ⟨v, hv, ru⟩ := hval i xv hPx
    refine ⟨_, rfl, wpAny_letOwnedTupleGo_enum (s := { s with heap := h', toks := tk + 1 }) ho fun h'' he' sb => ?_⟩
    have hT2 : h''.get? s.heap.objs.size = some { cls := .type "tuple", data := .seq #[.int (k0 + (i : Nat)) tk, xv] } := (sb.2 _ (Nat.ne_of_gt hel)).trans hT
    have new : ObjOk X.prog X.w (upd H s.heap.objs.size (.tup [.int (k0 + (i : Nat)), v])) h'' s.heap.objs.size (.tup [.int (k0 + (i : Nat)), v]) :=
      ⟨by show 2 ≤ sizeLine; decide, [.int (k0 + (i : Nat)) tk, xv], .cons ⟨_, rfl⟩ (.cons ru .nil), ⟨_, hT2, rfl, _, rfl⟩⟩
    have I1 : L2.Inv X pins σ (upd H s.heap.objs.size (.tup [.int (k0 + (i : Nat)), v])) { s with heap := h'', toks := tk + 1 } :=
      I.turnedNew (ch := [e, it]) (fun b ob hb q => (sb.2 b (fun z => hb (by simp [z]))).trans (hk b ob (fun z => hb (by simp [z])) (fun z => hb (by simp [z])) q)) hf (Nat.le_refl _) new
    refine ⟨.ref s.heap.objs.size, _, I1, rfl, ⟨_, v, rfl, I.hok.fresh (Nat.le_refl _), rfl, hv⟩, ⟨⟨xv, ?_⟩, In.keep _ _ _ (hback _ _ hst') fun o q => (sb.2 it (Ne.symm hne)).trans q, hne⟩, fun b hb => ?_⟩
    · have e1 : k0 + ((i + 1 : Nat) : Int) = k0 + (i : Int) + 1 := by omega
      rw [e1]; exact he'
    · have hb' : b < s.heap.objs.size := by
        have e' : b = e ∨ b = it := by simpa using hb
        rcases e' with z | z
        · rw [z]; exact hel
        · rw [z]; exact hil
      rw [upd_ne (Nat.ne_of_lt hb')]
      exact (hf b hb).1
  done := by
    intro X hP hw hK hc i pins s σ H E I hf st hg
    obtain ⟨⟨old, he⟩, hit, hne⟩ := st
    obtain ⟨hi, hq⟩ := hg
    obtain ⟨fp, Pv, St, D, hfp, hst, hback, hval⟩ := In.draws X hP hw hK hc pins s σ H I (hf it (by simp)).1 hq i hit
    subst hP hw hK
    obtain ⟨f0, f1, f2, f3, f4, f5⟩ := hf it (by simp)
    rw [hi] at hst
    exact wpAny_pyNext_enum_endD D he hst fun h' eb => ⟨rfl, I.turned (t' := s.toks) (fun b o hb q => eb b o hb q) f0 f1 f3 f4 f5⟩
  self := fun A i s Q E st h => let ⟨⟨_, he⟩, _⟩ := st; wpAny_pyIter_enum he h
theorem in_list {P : Program} {w : World} {K : PySem.W.Frag} {it a : Addr} {xs : List V} : Inner P w K it (fun H => SqL K H a xs) xs (fun i h => h.IsListIter it a i) where
  obj := fun i h st => by
    obtain ⟨o, ho, hc, hd⟩ := st
    exact ⟨o, ho, fun v q => by rw [hd] at q; cases q⟩
  keep := fun i h h' st k => st.at fun o q => k o q
  draws := by
    intro X hP hw hK hc pins s σ H I hn g i st
    subst hP hw hK
    obtain ⟨its, rv, p, hz⟩ := I.list g
    have hai : a ≠ it := fun z => by
      subst z
      rcases g with (g | ⟨o, g⟩) | ⟨o, _, _, g, _⟩
      · rw [hn] at g; cases g
      · rw [hn] at g; cases g
      · obtain ⟨o', ho', hc', hd'⟩ := st
        obtain ⟨o2, n2, e2, c2, _⟩ := p
        rw [ho'] at e2
        cases e2
        rw [hc'] at c2
        exact absurd (Value.type.inj c2) (by decide)
    have hl : xs.length = its.toArray.size := by rw [rv.length, List.size_toArray]
    rw [hl]
    refine ⟨[it, a], _, _, Draws.list (A := X.A.in1) (I.ok.hd hc) it a hai its.toArray, fun b hb => ?_, ⟨st, p.isList⟩, fun i h st => st.1, fun i u hu => ?_⟩
    · have e' : b = it ∨ b = a := by simpa using hb
      rcases e' with z | z
      · exact .inl z
      · subst z
        rcases g with (g | ⟨o, g⟩) | ⟨o, _, _, g, _⟩
        · exact .inr ⟨_, .inl g⟩
        · exact .inr ⟨_, .inl g⟩
        · exact .inr ⟨.lst [], .inr (by rw [g]; exact fun z => nomatch z)⟩
    · have hu' : its[i]? = some u := by simpa using hu
      have hi : i < xs.length := by
        rw [rv.length]
        exact (List.getElem?_eq_some_iff.mp hu').1
      obtain ⟨u2, e1, e2⟩ := rv.get (List.getElem?_eq_getElem hi)
      rw [hu'] at e1; cases e1
      exact ⟨_, List.getElem?_eq_getElem hi, e2⟩
theorem in_tup {P : Program} {w : World} {K : PySem.W.Frag} {it a : Addr} {xs : List V} : Inner P w K it (fun H => SqT K H a xs) xs (fun i h => h.IsTupleIter it a i) where
  obj := fun i h st => by
    obtain ⟨o, ho, hc, hd⟩ := st
    exact ⟨o, ho, fun v q => by rw [hd] at q; cases q⟩
  keep := fun i h h' st k => let ⟨o, ho, r⟩ := st; ⟨o, k o ho, r⟩
  draws := by
    intro X hP hw hK hc pins s σ H I hn g i st
    subst hP hw hK
    obtain ⟨its, rv, p, hz⟩ := I.tuple g
    have hai : a ≠ it := fun z => by
      subst z
      rcases g with (g | ⟨o, g⟩) | ⟨o, _, _, g, _⟩
      · rw [hn] at g; cases g
      · rw [hn] at g; cases g
      · obtain ⟨o', ho', hc', hd'⟩ := st
        obtain ⟨o2, e2, c2, _⟩ := p
        rw [ho'] at e2
        cases e2
        rw [hc'] at c2
        exact absurd (Value.type.inj c2) (by decide)
    have hl : xs.length = its.toArray.size := by rw [rv.length, List.size_toArray]
    rw [hl]
    refine ⟨[it, a], _, _, Draws.tuple (A := X.A.in1) (I.ok.hd hc) it a hai its.toArray, fun b hb => ?_, ⟨st, p⟩, fun i h st => st.1, fun i u hu => ?_⟩
    · have e' : b = it ∨ b = a := by simpa using hb
      rcases e' with z | z
      · exact .inl z
      · subst z
        rcases g with (g | ⟨o, g⟩) | ⟨o, _, _, g, _⟩
        · exact .inr ⟨_, .inl g⟩
        · exact .inr ⟨_, .inl g⟩
        · exact .inr ⟨.lst [], .inr (by rw [g]; exact fun z => nomatch z)⟩
    · have hu' : its[i]? = some u := by simpa using hu
      have hi : i < xs.length := by
        rw [rv.length]
        exact (List.getElem?_eq_some_iff.mp hu').1
      obtain ⟨u2, e1, e2⟩ := rv.get (List.getElem?_eq_getElem hi)
      rw [hu'] at e1; cases e1
      exact ⟨_, List.getElem?_eq_getElem hi, e2⟩
theorem in_str {P : Program} {w : World} {K : PySem.W.Frag} {it : Addr} {z : Str} {t : Tok} : Inner P w K it (fun _ => True) (chV z) (fun i h => h.IsStrIter it (strIterType z) z t i) where
  obj := fun i h st => by
    obtain ⟨o, ho, hc, hd⟩ := st
    exact ⟨o, ho, fun v q => by rw [hd] at q; cases q⟩
  keep := fun i h h' st k => let ⟨o, ho, r⟩ := st; ⟨o, k o ho, r⟩
  draws := by
    intro X hP hw hK hc pins s σ H I hn g i st
    subst hP hw hK
    rw [chV_len]
    refine ⟨[it], _, _, Draws.text (A := X.A.in1) (I.ok.hd hc) it z t, fun b hb => .inl (by simpa using hb), st, fun i h st => st, fun i u hu => ?_⟩
    obtain ⟨c, u2, h1, rfl⟩ := hu
    refine ⟨.str ⟨#[c]⟩, ?_, u2, rfl⟩
    unfold chV
    rw [List.getElem?_map, Array.getElem?_toList, h1]
    rfl
end Nv
namespace PySem
open Sem (wp)
set_option maxHeartbeats 4000000 in
theorem nv_meets_enum {v : Value} {o : Obj} {H : Heap → Prop} (B : Begins v o H) :
    Meets (Builtin.«enumerate.__new__» ⟨[.type "enumerate", v], []⟩) (fun _ R s => H s.heap ∧
      R (.ok (.ret (.ref (s.heap.push o).objs.size))) { s with heap := (s.heap.push o).push { cls := .type "enumerate", data := .fields #[.none, .bool false, .ref s.heap.objs.size, rawInt 0, .none, .none] } }) :=
  .of_wp fun prog w A R s h => by
    obtain ⟨hp, g, d, tk, os⟩ := s; obtain ⟨h1, h⟩ := h
    have hsub := sub_enumerate
    have q1 : ∀ {A' : Around} {E : Value → Shared → Prop} {Q : Value → Shared → Prop}, Q (.ref hp.objs.size) ⟨hp.push o, g, d, tk, os⟩ → wpAny (model prog w) A' (pyIter v) Q E ⟨hp, g, d, tk, os⟩ :=
      fun q => B.iter prog w _ _ ⟨hp, g, d, tk, os⟩ _ h1 q
    wp_walk using q1
    refine wpAny_stack_any fun st => wpAny_pure ?_
    split
    · rename_i c _ _ _ _ _
      cases (c == Value.type "enumerate")
      · wp_walk using q1
        exact ⟨_, rfl, h⟩
      · wp_walk using q1
        exact ⟨_, rfl, h⟩
    · wp_walk using q1
      exact ⟨_, rfl, h⟩
section
variable {prog : Program} {w : World} {A : Around} {E : Value → Shared → Prop} {s : Shared}
/-- enumerate(v): its two new cells -/
theorem nv_enum_begins {v : Value} {o : Obj} {H : Heap → Prop} {Q : Value → Shared → Prop} (B : Begins v o H) (h1 : H s.heap)
    (h : ∀ h', IsEnum h' (s.heap.objs.size + 1) s.heap.objs.size 0 .none → h'.get? s.heap.objs.size = some o → h'.objs.size = s.heap.objs.size + 2 →
      (∀ b o, s.heap.get? b = some o → h'.get? b = some o) → Q (.ref (s.heap.objs.size + 1)) { s with heap := h' }) :
    wpAny (model prog w) A (call (.type "enumerate") [v]) Q E s := by
  refine callType_new F.called_enumerate (by decide) (F.typeCall_enumerate_1 _) (F.newCall_enumerate_1 _) (fun obj => F.args_object_init_2 obj _) F.entry_enumerate_new
    (nv_meets_enum B) ⟨h1, ?_⟩
  have hz : (s.heap.push o).objs.size = s.heap.objs.size + 1 := Heap.size_push ..
  show _ ∧ _
  rw [hz]
  have he : IsEnum ((s.heap.push o).push { cls := .type "enumerate", data := .fields #[.none, .bool false, .ref s.heap.objs.size, rawInt 0, .none, .none] }) (s.heap.objs.size + 1) s.heap.objs.size 0 .none := by
    have := Heap.get?_push_size (s.heap.push o) (o := { cls := .type "enumerate", data := .fields #[.none, .bool false, .ref s.heap.objs.size, rawInt 0, .none, .none] }) rfl
    rw [hz] at this; exact this
  refine ⟨⟨_, he, rfl⟩, h _ he (Heap.get?_push_of_some _ (Heap.get?_push_size _ B.free)) (by rw [Heap.size_push, hz]) fun b o x => Heap.get?_push_of_some _ (Heap.get?_push_of_some _ x)⟩
end
end PySem
namespace Nv
open PySem PySem.Spec PyProof.Rows L2
open Evl (Ex)
def iEnA (K : PySem.W.Frag) (ta : TA) : TI := fun σ H R => ta σ H fun vs H1 => ∃ x xs G, vs = [x] ∧ SeqG K x xs G ∧ G H1 ∧ ∀ J, Walk J xs.length G (YEnum 0 xs) → R J H1
theorem pie_enum {X : Cx} {elts : List Expr} {kk : Nat} {tpos : Pos} {pins : List (Addr × Obj)} {σ : L2.St} {H : Hp} {s : Shared} {R : It → Hp → Prop} {G : Hp → Prop} {xs : List V} {tn : Nat → Heap → Prop} {o : Obj} {h' : Heap} (I : L2.Inv X pins σ H s)
    (In : Inner X.prog X.w X.K s.heap.objs.size G xs tn) (he : IsEnum h' (s.heap.objs.size + 1) s.heap.objs.size 0 .none) (ho : tn 0 h')
    (hk : ∀ b o, s.heap.get? b = some o → h'.get? b = some o) (q : ∀ J, Walk J xs.length G (YEnum 0 xs) → R J H) :
    wpAny (model X.prog X.w) X.A (pyIter (.ref (s.heap.objs.size + 1))) (PIE X pins σ (.Tuple elts kk tpos) R) X.xe { s with heap := h' } := by
  have I2 : L2.Inv X pins σ H { s with heap := h' } := I.kept (t' := s.toks) hk
  refine wpAny_pyIter_enum he ?_
  refine ⟨s.heap.objs.size + 1, [s.heap.objs.size + 1, s.heap.objs.size], _, _, H, rfl, I2, turn_enA (k0 := 0) In, ⟨⟨.none, he⟩, ho, Nat.succ_ne_self _⟩, fun b hb => ?_, q _ walkEn⟩
  have e' : b = s.heap.objs.size + 1 ∨ b = s.heap.objs.size := by simpa using hb
  have hle : s.heap.objs.size ≤ b := by
    rcases e' with z | z
    · rw [z]; exact Nat.le_add_right _ _
    · rw [z]; exact Nat.le_refl _
  exact I.fpOk hle (I.hok.fresh hle)
theorem pi_enA {X : Cx} {e : Expr} {ta : TA} {p pos tpos : Pos} {elts : List Expr} {kk : Nat} (hg : Gl X "enumerate") (hm : X.mg "enumerate" = none) (ha : PA X [e] ta) (hs : starEach [e] X.env = [(false, eval e X.env)] := by rfl) :
    PI X (.Tuple elts kk tpos) (.Call (.Name "enumerate" p) [e] [] pos) (iEnA X.K ta) := by
  refine ⟨fun pins s σ H R I h => ?_⟩
  refine Call_ (ld_blt I hg hm boot_enumerate (PyProof.Rows.callWith_type1 (thn (ha.run pos pins s σ H _ I h) fun us s1 ⟨vs, H1, I1, r1, x, xs, G, ex, sg, g, q⟩ => ?_) hs rfl))
  subst ex
  obtain ⟨u, rfl, ru⟩ := vals1 r1
  cases sg with
  | l a xs =>
    cases ru
    obtain ⟨its, rv, p', hz⟩ := I1.list g
    exact nv_enum_begins (begins_list a its.toArray) p'.isList fun h' he hit hsz hk => pie_enum (o := ⟨.none, none, .plain, #[]⟩) I1 in_list he ⟨_, hit, rfl, rfl⟩ hk q
  | t a xs =>
    cases ru
    obtain ⟨its, rv, p', hz⟩ := I1.tuple g
    exact nv_enum_begins (begins_tuple a its.toArray) p' fun h' he hit hsz hk => pie_enum (o := ⟨.none, none, .plain, #[]⟩) I1 in_tup he ⟨_, hit, rfl, rfl⟩ hk q
  | s z =>
    obtain ⟨t, rfl⟩ := ru
    exact nv_enum_begins (begins_text z t) trivial fun h' he hit hsz hk => pie_enum (o := ⟨.none, none, .plain, #[]⟩) I1 (in_str (t := t)) he ⟨_, hit, rfl, rfl⟩ hk q
end Nv
-- N8
namespace Nv
open PySem PySem.Spec PyProof.Rows L2
open Evl (Ex)
inductive Out where
  | nx (Γ : Ev) | bk (Γ : Ev) | ct (Γ : Ev) | rt (av : AV) (Γ : Ev) | ex (n : Str) (l : List (Str × D)) (Γ : Ev) | bad
def PoS (c : Cf) (σ : L2.St) (F H : Hp) (Γ : Ev) (r : Out) (De : Ends) : Prop :=
  match r with
  | .nx Γ' => ∀ σ' F' H', Rel c.M c.σ0 F' H' σ' Γ' → Ext (own σ Γ) F H (own σ' Γ') F' H' → De.nx σ' H'
  | .bk Γ' => ∀ σ' F' H', Rel c.M c.σ0 F' H' σ' Γ' → Ext (own σ Γ) F H (own σ' Γ') F' H' → De.bk σ' H'
  | .ct Γ' => ∀ σ' F' H', Rel c.M c.σ0 F' H' σ' Γ' → Ext (own σ Γ) F H (own σ' Γ') F' H' → De.ct σ' H'
  | .rt av Γ' => ∀ σ' F' H' v, Rel c.M c.σ0 F' H' σ' Γ' → Ext (own σ Γ) F H (own σ' Γ') F' H' → AVR c.M (own σ Γ) H F' H' (own σ' Γ') v av → De.rt v H'
  | .ex n l Γ' => ∀ σ' F' H' C dx, Rel c.M c.σ0 F' H' σ' Γ' → Ext (own σ Γ) F H (own σ' Γ') F' H' → c.M.mg n = some (.ref C) → XR c.M F' l dx → c.W (.ref C) dx σ' H'
  | .bad => False
def tS (c : Cf) (f : Ev → Out) : TS := fun De σ H => ∃ F Γ, Rel c.M c.σ0 F H σ Γ ∧ PoS c σ F H Γ (f Γ) De
abbrev DS (X : Cx) (c : Cf) (s : Stmt) (f : Ev → Out) : Prop := PS X s (tS c f)
abbrev DSs (X : Cx) (c : Cf) (s : List Stmt) (f : Ev → Out) : Prop := PSs X s (tS c f)
theorem PS.of {X : Cx} {s : Stmt} {t t' : TS} (h : PS X s t) (i : ∀ De σ H, t' De σ H → t De σ H) : PS X s t' := ⟨fun pins st σ H De I q => h.run pins st σ H De I (i De σ H q)⟩
theorem PSs.of {X : Cx} {s : List Stmt} {t t' : TS} (h : PSs X s t) (i : ∀ De σ H, t' De σ H → t De σ H) : PSs X s t' := ⟨fun pins st σ H De I q => h.run pins st σ H De I (i De σ H q)⟩
theorem AVR.shift {M : Md} {A A1 A' : Addr → Prop} {F H F1 H1 F' H' : Hp} {v : V} {av : AV} (e : Ext A F H A1 F1 H1) (h : AVR M A1 H1 F' H' A' v av) : AVR M A H F' H' A' v av := by
  cases av with
  | dat d => exact h
  | own o =>
    obtain ⟨p, h1, h2, h3, h4, h5⟩ := h
    exact ⟨p, h1, h2, h3, h4, e.back h5⟩
section
variable {c : Cf} {σ σ1 : L2.St} {F H F1 H1 : Hp} {Γ Γ1 : Ev} {De De' : Ends}
theorem PoS.shift {r : Out} (e : Ext (own σ Γ) F H (own σ1 Γ1) F1 H1) (h : PoS c σ F H Γ r De) : PoS c σ1 F1 H1 Γ1 r De := by
  cases r with
  | nx Γ' => exact fun σ' F' H' r1 e1 => h σ' F' H' r1 (e.trans e1)
  | bk Γ' => exact fun σ' F' H' r1 e1 => h σ' F' H' r1 (e.trans e1)
  | ct Γ' => exact fun σ' F' H' r1 e1 => h σ' F' H' r1 (e.trans e1)
  | rt av Γ' => exact fun σ' F' H' v r1 e1 a => h σ' F' H' v r1 (e.trans e1) (a.shift e)
  | ex n l Γ' => exact fun σ' F' H' C dx r1 e1 m x => h σ' F' H' C dx r1 (e.trans e1) m x
  | bad => exact h
def Rs.out {α : Type} (r : Rs α) (k : α → Ev → Out) : Out :=
  match r with
  | .ok a Γ => k a Γ
  | .ex n l Γ => .ex n l Γ
  | .bad => .bad
theorem PoS.out {α β : Type} {R : VRel α β} {r : Rs α} {k : α → Ev → Out} (h : PoS c σ F H Γ (r.out k) De) :
    Po c R σ F H Γ r (fun v H' => ∃ F' Γ' a, Rel c.M c.σ0 F' H' σ Γ' ∧ Ext (own σ Γ) F H (own σ Γ') F' H' ∧ R σ F H Γ F' H' Γ' v a ∧ PoS c σ F H Γ (k a Γ') De) := by
  cases r with
  | ok a Γ' => exact fun F' H' v r1 e1 v1 => ⟨F', Γ', a, r1, e1, v1, h⟩
  | ex n l Γ' => exact fun F' H' C dx r1 e1 m x => h σ F' H' C dx r1 e1 m x
  | bad => exact h
/-- what is done next -/
def Out.seq (o : Out) (g : Ev → Out) : Out :=
  match o with
  | .nx Γ => g Γ
  | o => o
theorem PoS.seq {r : Out} {g : Ev → Out} (h : PoS c σ F H Γ (r.seq g) De) : PoS c σ F H Γ r { De with nx := tS c g De } := by
  cases r with
  | nx Γ' => exact fun σ' F' H' r1 e1 => ⟨F', Γ', r1, PoS.shift e1 h⟩
  | bk Γ' => exact h
  | ct Γ' => exact h
  | rt av Γ' => exact h
  | ex n l Γ' => exact h
  | bad => exact h
end
section
variable {X : Cx} {c : Cf} {s : Stmt} {ss : List Stmt} {e : Expr} {pos : Pos}
def nilS : Ev → Out := .nx
def seqS (f g : Ev → Out) : Ev → Out := fun Γ => (f Γ).seq g
theorem ds_nil : DSs X c [] nilS := PSs.of pss_nil fun De σ H ⟨F, Γ, r, q⟩ => q σ F H r Ext.refl
theorem ds_cons {f g : Ev → Out} (h1 : DS X c s f) (h2 : DSs X c ss g) : DSs X c (s :: ss) (seqS f g) :=
  PSs.of (pss_cons h1 h2) fun De σ H ⟨F, Γ, r, q⟩ => ⟨F, Γ, r, PoS.seq q⟩
theorem ds_one {f : Ev → Out} (h1 : DS X c s f) : DSs X c [s] f := pss_one h1
def exprS (f : Ev → Rs AV) : Ev → Out := fun Γ => (f Γ).out fun _ Γ => .nx Γ
theorem ds_expr {f : Ev → Rs AV} (h : DO X c e f) (hs : swapsWith e none pos.line X.env = pure false := by rfl) : DS X c (.Expr e pos) (exprS f) :=
  PS.of (ps_expr h hs) fun De σ H ⟨F, Γ, r, q⟩ => ⟨F, Γ, r, (PoS.out (R := vrO c.M) q).imp fun v H' ⟨F', Γ', a, r1, e1, _, q1⟩ => q1 σ F' H' r1 e1⟩
def retS (f : Ev → Rs AV) : Ev → Out := fun Γ => (f Γ).out fun av Γ => .rt av Γ
theorem ds_ret {f : Ev → Rs AV} (h : DO X c e f) : DS X c (.Return (some e) pos) (retS f) :=
  PS.of (ps_ret h) fun De σ H ⟨F, Γ, r, q⟩ => ⟨F, Γ, r, (PoS.out (R := vrO c.M) q).imp fun v H' ⟨F', Γ', a, r1, e1, a1, q1⟩ => q1 σ F' H' v r1 e1 a1⟩
def retN : Ev → Out := fun Γ => .rt (.dat .non) Γ
def ifS (t : Ev → Rs Bool) (f g : Ev → Out) : Ev → Out := fun Γ => (t Γ).out fun b Γ => if b = true then f Γ else g Γ
theorem ds_if {a b : List Stmt} {t : Ev → Rs Bool} {f g : Ev → Out} (ht : DT X c e t) (ha : DSs X c a f) (hb : DSs X c b g) : DS X c (.If e a b pos) (ifS t f g) :=
  PS.of (ps_if ht ha hb) fun De σ H ⟨F, Γ, r, q⟩ => ⟨F, Γ, r, (PoS.out (R := vrT) q).imp fun v H' ⟨F', Γ', a, r1, e1, a1, q1⟩ => by
    have a2 : v = a := a1
    subst a2
    cases v with
    | true => exact ⟨F', Γ', r1, PoS.shift e1 q1⟩
    | false => exact ⟨F', Γ', r1, PoS.shift e1 q1⟩⟩
def slotOf : AV → Slot
  | .dat d => .dat d
  | .own o => .own none o
/-- may this slot be set -/
def setOk (Γ : Ev) (i : Nat) : Bool :=
  match Γ[i]? with
  | some (.own (some _) _) => false
  | some _ => true
  | none => false
def setG (Γ : Ev) (i : Nat) (av : AV) : Option Ev := if setOk Γ i = true then some (Γ.set i (slotOf av)) else none
theorem set_rel {M : Md} {σ0 σ : L2.St} {F H : Hp} {Γ Γ' : Ev} {i : Nat} {av : AV} {v : V} {A0 : Addr → Prop} {H0 : Hp} (r : Rel M σ0 F H σ Γ) (h : setG Γ i av = some Γ') (a : AVR M A0 H0 F H (own σ Γ) v av) :
    Rel M σ0 F H (σ.set i (some v)) Γ' ∧ ∀ b, own (σ.set i (some v)) Γ' b → own σ Γ b ∨ A0 b ∨ H0 b = none := by
  unfold setG at h
  split at h
  · rename_i hok
    cases h
    have hi : i < Γ.length := by
      unfold setOk at hok
      cases q : Γ[i]? with
      | none => rw [q] at hok; cases hok
      | some g => exact (List.getElem?_eq_some_iff.mp q).1
    have hi2 : i < σ.length := by rw [r.len]; exact hi
    have at_i : ∀ {j t o}, (Γ.set i (slotOf av))[j]? = some (Slot.own t o) → (j = i ∧ av = .own o ∧ t = none) ∨ (j ≠ i ∧ Γ[j]? = some (Slot.own t o)) := fun {j t o} q => by
      by_cases z : i = j
      · subst z
        rw [List.getElem?_set_self hi] at q
        cases av with
        | dat d => cases q
        | own o' => cases q; exact .inl ⟨rfl, rfl, rfl⟩
      · rw [List.getElem?_set_ne z] at q
        exact .inr ⟨fun e => z e.symm, q⟩
    refine ⟨⟨r.sub, by rw [List.length_set, List.length_set]; exact r.len, fun j s g h1 h2 => ?_, fun j k t o t' o' b h1 h2 h3 h4 => ?_⟩, fun b hb => ?_⟩
    · by_cases z : i = j
      · subst z
        rw [List.getElem?_set_self hi2] at h1
        rw [List.getElem?_set_self hi] at h2
        cases h1
        cases h2
        cases av with
        | dat d => exact ⟨v, rfl, a⟩
        | own o =>
          obtain ⟨p, rfl, x1, x2, x3, x4⟩ := a
          exact ⟨p, rfl, x1, x3, fun k hk => nomatch hk⟩
      · rw [List.getElem?_set_ne z] at h1
        rw [List.getElem?_set_ne z] at h2
        exact r.slot j s g h1 h2
    · rcases at_i h1 with ⟨e1, e2, _⟩ | ⟨n1, g1⟩
      · rcases at_i h2 with ⟨e3, _⟩ | ⟨n2, g2⟩
        · rw [e1, e3]
        · subst e1
          rw [List.getElem?_set_self hi2] at h3
          rw [List.getElem?_set_ne (Ne.symm n2)] at h4
          rw [e2] at a
          obtain ⟨p, x0, x1, x2, x3, x4⟩ := a
          cases h3
          cases x0
          exact absurd ⟨k, t', o', g2, h4⟩ x2
      · rw [List.getElem?_set_ne (Ne.symm n1)] at h3
        rcases at_i h2 with ⟨e3, e4, _⟩ | ⟨n2, g2⟩
        · subst e3
          rw [List.getElem?_set_self hi2] at h4
          rw [e4] at a
          obtain ⟨p, x0, x1, x2, x3, x4⟩ := a
          cases h4
          cases x0
          exact absurd ⟨j, t, o, g1, h3⟩ x2
        · rw [List.getElem?_set_ne (Ne.symm n2)] at h4
          exact r.sep j k t o t' o' b g1 g2 h3 h4
    · obtain ⟨j, t, o, h1, h2⟩ := hb
      rcases at_i h1 with ⟨e1, e2, _⟩ | ⟨n1, g1⟩
      · subst e1
        rw [List.getElem?_set_self hi2] at h2
        rw [e2] at a
        obtain ⟨p, x0, x1, x2, x3, x4⟩ := a
        cases h2
        cases x0
        exact .inr x4
      · rw [List.getElem?_set_ne (Ne.symm n1)] at h2
        exact .inl ⟨j, t, o, g1, h2⟩
  · cases h
/-- the new own ones were own, or are new -/
theorem Ext.own {A A' A'' : Addr → Prop} {F H F' H' : Hp} (e : Ext A F H A' F' H') (h : ∀ b, A'' b → A' b ∨ A b ∨ H b = none) : Ext A F H A'' F' H' :=
  ⟨e.ff, e.hh, e.fn, fun b z => by
    rcases h b z with q | q
    · exact e.aa b q
    · exact q⟩
def optS (o : Option Ev) : Out := match o with
  | some Γ => .nx Γ
  | none => .bad
def setS (i : Nat) (f : Ev → Rs AV) : Ev → Out := fun Γ => (f Γ).out fun av Γ => optS (setG Γ i av)
theorem rd_set {i : Nat} {f : Ev → Rs AV} {De : Ends} {σ : L2.St} {H : Hp} (h : tS c (setS i f) De σ H) : tAsg (tR c (vrO c.M) f) (gName i) De σ H := by
  obtain ⟨F, Γ, r, q⟩ := h
  refine ⟨F, Γ, r, (PoS.out (R := vrO c.M) q).imp fun v H' ⟨F', Γ', av, r1, e1, a1, q1⟩ => ?_⟩
  cases hs : setG Γ' i av with
  | none => rw [hs] at q1; exact q1.elim
  | some Γ2 =>
    rw [hs] at q1
    obtain ⟨r2, o2⟩ := set_rel r1 hs a1
    exact q1 _ F' H' r2 (e1.own o2)
theorem ds_set {i : Nat} {x : Str} {pos' : Pos} {f : Ev → Rs AV} (hN : X.N.Nodup) (h : DO X c e f) (hi : X.N[i]? = some x := by rfl) (hx : Loc X.env.scope x := by first | exact .inl rfl | exact .inr rfl) (hs : swapsWith e (some (.Name x pos')) pos.line X.env = pure false := by rfl)
    (hf : X.fn x = true ∨ X.env.scope.names.lookup x = some .local := by first | exact .inl rfl | exact .inr rfl | assumption) : DS X c (.Assign [.Name x pos'] e pos) (setS i f) :=
  PS.of (ps_set hN hi hx h hs hf) fun De σ H q => rd_set q
abbrev TgF := D → Ev → Option Ev
/-- what a target does with data; ts: the slots that it sets -/
def GSpec (c : Cf) (g : TG) (ts : List Nat) (f : TgF) : Prop :=
  ∀ σ F H Γ v d Γ' (Q : L2.St → Hp → Prop), Rel c.M c.σ0 F H σ Γ → Rep c.M F d v → f d Γ = some Γ' →
    (∀ σ', Rel c.M c.σ0 F H σ' Γ' → (∀ b, own σ' Γ' b → own σ Γ b) → (∀ vs, (∀ i ∈ ts, i ∈ vs) → wipe σ' vs = wipe σ vs) → Q σ' H) → g v σ H Q
abbrev TgsF := List D → Ev → Option Ev
def GsSpec (c : Cf) (g : TGs) (n : Nat) (ts : List Nat) (f : TgsF) : Prop :=
  (∀ l Γ Γ', f l Γ = some Γ' → l.length = n) ∧
  ∀ σ F H Γ xs l Γ' (Q : L2.St → Hp → Prop), Rel c.M c.σ0 F H σ Γ → Reps c.M F l xs → f l Γ = some Γ' →
    (∀ σ', Rel c.M c.σ0 F H σ' Γ' → (∀ b, own σ' Γ' b → own σ Γ b) → (∀ vs, (∀ i ∈ ts, i ∈ vs) → wipe σ' vs = wipe σ vs) → Q σ' H) → g xs σ H Q
theorem wipe_set {σ : L2.St} {i : Nat} {v : V} : ∀ {vs : List Nat}, i ∈ vs → wipe (σ.set i (some v)) vs = wipe σ vs
  | [], h => by cases h
  | j :: vs, h => by
    unfold wipe
    by_cases z : i ∈ vs
    · rw [wipe_set z]
    · have e : i = j := by
        rcases List.mem_cons.mp h with e | e
        · exact e
        · exact absurd e z
      subst e
      have comm : ∀ {ws : List Nat}, i ∉ ws → wipe (σ.set i (some v)) ws = (wipe σ ws).set i (some v) := by
        intro ws
        induction ws with
        | nil => intro _; rfl
        | cons k ws ih =>
          intro hn
          unfold wipe
          rw [ih (fun q => hn (List.mem_cons_of_mem _ q)), List.set_comm]
          exact fun e => hn (by rw [e]; exact List.mem_cons_self)
      rw [comm z, List.set_set]
def tName (i : Nat) : TgF := fun d Γ => setG Γ i (.dat d)
theorem gs_name {i : Nat} : GSpec c (gName i) [i] (tName i) := by
  intro σ F H Γ v d Γ' Q r hr h k
  obtain ⟨r2, o2⟩ := set_rel (A0 := fun _ => False) (H0 := H) r h (show AVR c.M (fun _ => False) H F H (own σ Γ) v (.dat d) from hr)
  have h2 := h
  unfold tName setG at h2
  split at h2
  · cases h2
    refine k _ r2 (fun b hb => ?_) fun vs hv => wipe_set (hv i (by simp))
    -- nothing new is own
    obtain ⟨j, t, o, h1, h3⟩ := hb
    by_cases z : i = j
    · subst z
      have hi : i < Γ.length := by
        have q := (List.getElem?_eq_some_iff.mp h1).1
        rwa [List.length_set] at q
      rw [List.getElem?_set_self hi] at h1
      cases h1
    · rw [List.getElem?_set_ne z] at h1 h3
      exact ⟨j, t, o, h1, h3⟩
  · cases h2
def tsNil : TgsF := fun l Γ => match l with
  | [] => some Γ
  | _ => none
def tsCons (f : TgF) (g : TgsF) : TgsF := fun l Γ => match l with
  | d :: r => (f d Γ).bind (g r)
  | [] => none
end
theorem gss_nil {c : Cf} : GsSpec c gNil 0 [] tsNil := by
  refine ⟨fun l Γ Γ' h => ?_, fun σ F H Γ xs l Γ' Q r hr h k => ?_⟩
  · unfold tsNil at h
    split at h
    · rfl
    · cases h
  · unfold tsNil at h
    split at h
    · cases h
      exact ⟨reps_nil.mp hr, k σ r (fun b hb => hb) fun vs _ => rfl⟩
    · cases h
theorem gss_cons {c : Cf} {g : TG} {gs : TGs} {n : Nat} {ts us : List Nat} {f : TgF} {fs : TgsF} (h1 : GSpec c g ts f) (h2 : GsSpec c gs n us fs) : GsSpec c (gCons g gs) (n + 1) (ts ++ us) (tsCons f fs) := by
  refine ⟨fun l Γ Γ' h => ?_, fun σ F H Γ xs l Γ' Q r hr h k => ?_⟩
  · unfold tsCons at h
    split at h
    · obtain ⟨Γ1, e1, e2⟩ := Option.bind_eq_some_iff.mp h
      rw [List.length_cons, h2.1 _ _ _ e2]
    · cases h
  · unfold tsCons at h
    split at h
    · rename_i d l'
      obtain ⟨Γ1, e1, e2⟩ := Option.bind_eq_some_iff.mp h
      obtain ⟨v, xr, rfl, r1, r2⟩ := reps_cons.mp hr
      refine ⟨v, xr, rfl, ?_⟩
      refine h1 σ F H Γ v d Γ1 _ r r1 e1 fun σ1 x1 x2 x3 => ?_
      refine h2.2 σ1 F H Γ1 xr l' Γ' Q x1 r2 e2 fun σ2 y1 y2 y3 => k σ2 y1 (fun b hb => x2 b (y2 b hb)) fun vs hv => ?_
      rw [y3 vs (fun i hi => hv i (List.mem_append_right _ hi)), x3 vs (fun i hi => hv i (List.mem_append_left _ hi))]
    · cases h
def tTup (f : TgsF) : TgF := fun d Γ => match d with
  | .tup l => f l Γ
  | .lst l => f l Γ
  | .fz l => f l Γ
  | _ => none
/-- (a, b, ..) = a tuple or a list of that length -/
def gTupA (K : PySem.W.Frag) (n : Nat) (t : TGs) : TG := fun v σ H Q => ∃ a xs, v = .ref a ∧ (SqT K H a xs ∨ SqL K H a xs) ∧ xs.length = n ∧ t xs σ H Q
theorem pg_tupA {X : Cx} {pos : Pos} {es : List Expr} {k : Nat} {t : TGs} {n : Nat} (hc : X.calm = true) (h : PGs X es t)
    (hn : (assignEach es X.env).length = n := by rfl) (hst : (assignEach es X.env).findIdx? (·.1) = none := by rfl) : PG X (.Tuple es k pos) (gTupA X.K n t) := by
  refine ⟨fun pins s σ H v u Q I r hw => ?_⟩
  obtain ⟨a, xs, e1, hq | hq, hl, hw⟩ := hw
  · exact (pg_tup hc h hn hst).run pins s σ H v u Q I r ⟨a, xs, e1, hq, hl, hw⟩
  · exact (pg_unl hc h hn hst).run pins s σ H v u Q I r ⟨a, xs, e1, hq, hl, hw⟩
theorem gs_tup {c : Cf} {K : PySem.W.Frag} {gs : TGs} {n : Nat} {ts : List Nat} {f : TgsF} (hK : c.M.K = K) (h : GsSpec c gs n ts f) : GSpec c (gTupA K n gs) ts (tTup f) := by
  intro σ F H Γ v d Γ' Q r hr e k
  unfold tTup at e
  split at e
  · rename_i l
    obtain ⟨a, xs, rfl, h1, h2⟩ := rep_tup.mp hr
    subst hK
    exact ⟨a, xs, rfl, .inl (Evl.ex_t r.sub (h1.sq h2)), by rw [h2.length]; exact h.1 l Γ Γ' e, h.2 σ F H Γ xs l Γ' Q r h2 e k⟩
  · rename_i l
    obtain ⟨a, xs, rfl, h1, h2⟩ := rep_lst.mp hr
    exact ⟨a, xs, rfl, .inr (SqL.of (r.sub _ _ h1)), by rw [h2.length]; exact h.1 l Γ Γ' e, h.2 σ F H Γ xs l Γ' Q r h2 e k⟩
  · rename_i l
    obtain ⟨a, xs, rfl, h1, h2⟩ := rep_fz.mp hr
    subst hK
    exact ⟨a, xs, rfl, .inr (Evl.ex_l r.sub h1), by rw [h2.length]; exact h.1 l Γ Γ' e, h.2 σ F H Γ xs l Γ' Q r h2 e k⟩
  · cases e
section
variable {X : Cx} {c : Cf} {s : Stmt} {ss : List Stmt} {e : Expr} {pos : Pos}
def asgS (g : TgF) (f : Ev → Rs D) : Ev → Out := fun Γ => (f Γ).out fun d Γ => optS (g d Γ)
/-- target = value, the value data -/
theorem ds_asg {tg : Expr} {t : TG} {ts : List Nat} {g : TgF} {f : Ev → Rs D} (h : DE X c e f) (hg : PG X tg t) (gs : GSpec c t ts g) (hs : swapsWithSole [tg] e pos.line X.env = pure false := by rfl) (hw : swappedStores [tg] e X.env = pure none := by rfl)
    (h1 : (assignEach [tg] X.env).map (·.2) = [assign tg X.env] := by rfl) : DS X c (.Assign [tg] e pos) (asgS g f) :=
  PS.of (ps_asg h hg hs hw h1) fun De σ H ⟨F, Γ, r, q⟩ => ⟨F, Γ, r, (PoS.out (R := vrD c.M) q).imp fun v H' ⟨F', Γ', d, r1, e1, a1, q1⟩ => by
    cases hs : g d Γ' with
    | none => rw [hs] at q1; exact q1.elim
    | some Γ2 =>
      rw [hs] at q1
      exact gs σ F' H' Γ' v d Γ2 _ r1 a1 hs fun σ' x1 x2 x3 => q1 σ' F' H' x1 (e1.own fun b hb => .inl (x2 b hb))⟩
/-- J walks these items while the frame F (and what P pins) stands -/
structure Wk (M : Md) (F : Hp) (P : Addr → HO → Prop) (items : List D) (J : It) : Prop where
  ex : ∃ (G : Hp → Prop) (Y : Nat → Hp → V → Hp → Prop), Walk J items.length G Y ∧ (∀ F' H', Ex F F' → Ex F' H' → (∀ p u, P p u → H' p = some u) → G H') ∧
    ∀ i F' H' v H'', i < items.length → Ex F F' → Ex F' H' → Y i H' v H'' → ∃ F'' d, items[i]? = some d ∧ Ext noA F' H' noA F'' H'' ∧ Ex F'' H'' ∧ Rep M F'' d v
def noP : Addr → HO → Prop := fun _ _ => False
def PoI (c : Cf) (σ : L2.St) (F H : Hp) (Γ : Ev) (r : Rs (List D)) (R : It → Hp → Prop) : Prop :=
  match r with
  | .ok items Γ' => ∀ F' H' J, Rel c.M c.σ0 F' H' σ Γ' → Ext (own σ Γ) F H (own σ Γ') F' H' → Wk c.M F' noP items J → R J H'
  | .ex n l Γ' => ∀ F' H' C dx, Rel c.M c.σ0 F' H' σ Γ' → Ext (own σ Γ) F H (own σ Γ') F' H' → c.M.mg n = some (.ref C) → XR c.M F' l dx → c.W (.ref C) dx σ H'
  | .bad => False
def tI (c : Cf) (f : Ev → Rs (List D)) : TI := fun σ H R => ∃ F Γ, Rel c.M c.σ0 F H σ Γ ∧ PoI c σ F H Γ (f Γ) R
abbrev DI (X : Cx) (c : Cf) (tg iter : Expr) (f : Ev → Rs (List D)) : Prop := PI X tg iter (tI c f)
theorem PI.of {tg iter : Expr} {t t' : TI} (h : PI X tg iter t) (i : ∀ σ H R, t' σ H R → t σ H R) : PI X tg iter t' := ⟨fun pins s σ H R I q => h.run pins s σ H R I (i σ H R q)⟩
def forL (g : TgF) (f : Ev → Out) : List D → Ev → Out
  | [], Γ => .nx Γ
  | d :: r, Γ => match g d Γ with
    | none => .bad
    | some Γ => (match f Γ with
      | .nx Γ => forL g f r Γ
      | .ct Γ => forL g f r Γ
      | .bk Γ => .nx Γ
      | o => o)
def forS (g : TgF) (src : Ev → Rs (List D)) (f : Ev → Out) : Ev → Out := fun Γ => (src Γ).out fun items Γ => forL g f items Γ
theorem PoI.bind {σ : L2.St} {F H : Hp} {Γ : Ev} {De : Ends} {r : Rs (List D)} {k : List D → Ev → Out} (h : PoS c σ F H Γ (r.out k) De) :
    PoI c σ F H Γ r fun J H' => ∃ F' Γ' items, Rel c.M c.σ0 F' H' σ Γ' ∧ Ext (own σ Γ) F H (own σ Γ') F' H' ∧ Wk c.M F' noP items J ∧ PoS c σ F H Γ (k items Γ') De := by
  cases r with
  | ok a Γ' => exact fun F' H' J r1 e1 v1 => ⟨F', Γ', a, r1, e1, v1, h⟩
  | ex n l Γ' => exact fun F' H' C dx r1 e1 m x => h σ F' H' C dx r1 e1 m x
  | bad => exact h
theorem PoI.imp {σ : L2.St} {F H : Hp} {Γ : Ev} {r : Rs (List D)} {R R' : It → Hp → Prop} (h : PoI c σ F H Γ r R) (i : ∀ J H', R J H' → R' J H') : PoI c σ F H Γ r R' := by
  cases r with
  | ok a Γ' => exact fun F' H' J r1 e1 v1 => i _ _ (h F' H' J r1 e1 v1)
  | ex n l Γ' => exact h
  | bad => exact h
theorem ds_for {tg iter : Expr} {body : List Stmt} {t : TG} {ts : List Nat} {g : TgF} {src : Ev → Rs (List D)} {f : Ev → Out} (hp : PassesOwn (model X.prog X.w) X.A X.env X.xe) (hc : X.calm = true) (hi : DI X c tg iter src) (hg : PG X tg t) (gs : GSpec c t ts g) (hb : DSs X c body f)
    (hs : ∀ x, foldedSetIterable iter X.env x = pure x := by intro _; rfl) : DS X c (.For tg iter body [] pos) (forS g src f) :=
  PS.of (ps_for hp hc hi hg hb hs) fun De σ H ⟨F, Γ, r, q⟩ => by
    refine ⟨F, Γ, r, (PoI.bind q).imp fun J H1 ⟨F1, Γ1, items, r1, e1, ⟨G, Y, w, hG, hY⟩, q1⟩ => ?_⟩
    refine for_it w (fun i σ' H' => ∃ F' Γ', Rel c.M c.σ0 F' H' σ' Γ' ∧ Ex F1 F' ∧ PoS c σ' F' H' Γ' (forL g f (items.drop i) Γ') De)
      ⟨F1, Γ1, r1, Evl.Ex.refl _, PoS.shift e1 q1⟩ (fun i σ' H' hi ⟨F', Γ', r', x', _⟩ => hG F' H' x' r'.sub fun _ _ z => z.elim) ?_ ?_
    · rintro i v σ' H' H'' hi ⟨F', Γ', r', x', q'⟩ hy
      obtain ⟨F2, d, hd, ee, sub2, rd⟩ := hY i F' H' v H'' hi x' r'.sub hy
      have r2 := r'.op ee sub2
      have e2 : Ext (own σ' Γ') F' H' (own σ' Γ') F2 H'' := ee.sub fun _ z => z.elim
      have hdrop : items.drop i = d :: items.drop (i + 1) := by
        have hl := (List.getElem?_eq_some_iff.mp hd)
        obtain ⟨h1, h2⟩ := hl
        rw [← h2]
        exact List.drop_eq_getElem_cons h1
      rw [hdrop] at q'
      have q3 := PoS.shift e2 q'
      unfold forL at q3
      cases hgd : g d Γ' with
      | none => rw [hgd] at q3; exact q3.elim
      | some Γ3 =>
        rw [hgd] at q3
        refine gs σ' F2 H'' Γ' v d Γ3 _ r2 rd hgd fun σ3 x1 x2 x3 => ?_
        have e3 : Ext (own σ' Γ') F2 H'' (own σ3 Γ3) F2 H'' := Ext.own Ext.refl fun b hb => .inl (x2 b hb)
        have q4 := PoS.shift e3 q3
        dsimp only at q4
        refine ⟨F2, Γ3, x1, ?_⟩
        have xx : Ex F1 F2 := x'.trans ee.ff
        cases hf : f Γ3 with
        | nx Γ4 => rw [hf] at q4; exact fun σ4 F4 H4 r4 e4 => ⟨F4, Γ4, r4, xx.trans e4.ff, PoS.shift e4 q4⟩
        | ct Γ4 => rw [hf] at q4; exact fun σ4 F4 H4 r4 e4 => ⟨F4, Γ4, r4, xx.trans e4.ff, PoS.shift e4 q4⟩
        | bk Γ4 => rw [hf] at q4; exact fun σ4 F4 H4 r4 e4 => q4 σ4 F4 H4 r4 e4
        | rt av Γ4 => rw [hf] at q4; exact q4
        | ex k l Γ4 => rw [hf] at q4; exact q4
        | bad => rw [hf] at q4; exact q4.elim
    · rintro σ' H' ⟨F', Γ', r', x', q'⟩
      rw [List.drop_length] at q'
      exact q' σ' F' H' r' Ext.refl
end
end Nv
-- N9
namespace Nv
open PySem PySem.Spec PyProof.Rows L2
open Evl (Ex)
inductive FR where
  | ok (av : AV) (outs : Ev) | ex (n : Str) (l : List (Str × D)) (outs : Ev) | bad
def tagA : Nat → List AV → Ev
  | _, [] => []
  | k, .dat d :: r => .dat d :: tagA (k + 1) r
  | k, .own o :: r => .own (some k) o :: tagA (k + 1) r
def tag1 (k : Nat) : AV → Slot
  | .dat d => .dat d
  | .own o => .own (some k) o
theorem tagA_cons {k : Nat} {a : AV} {r : List AV} : tagA k (a :: r) = tag1 k a :: tagA (k + 1) r := by cases a <;> rfl
theorem tagA_len : ∀ {k : Nat} {l : List AV}, (tagA k l).length = l.length
  | _, [] => rfl
  | k, a :: r => by rw [tagA_cons, List.length_cons, tagA_len, List.length_cons]
theorem tagA_get : ∀ {k : Nat} {l : List AV} {j : Nat}, (tagA k l)[j]? = (l[j]?).map (tag1 (k + j))
  | _, [], _ => rfl
  | k, a :: r, 0 => by rw [tagA_cons]; rfl
  | k, a :: r, j + 1 => by
    rw [tagA_cons, List.getElem?_cons_succ, List.getElem?_cons_succ, tagA_get, show k + 1 + j = k + (j + 1) by omega]
theorem tag1_own {k : Nat} {a : AV} {t : Option Nat} {o : O} (h : tag1 k a = .own t o) : t = some k ∧ a = .own o := by
  cases a with
  | dat d => cases h
  | own o' => cases h; exact ⟨rfl, rfl⟩
theorem tag1_dat {k : Nat} {a : AV} {d : D} (h : tag1 k a = .dat d) : a = .dat d := by
  cases a with
  | dat d => cases h; rfl
  | own o' => cases h
theorem tagA_own {k : Nat} {l : List AV} {j : Nat} {t : Option Nat} {o : O} (h : (tagA k l)[j]? = some (.own t o)) : t = some (k + j) ∧ l[j]? = some (.own o) := by
  rw [tagA_get] at h
  cases e : l[j]? with
  | none => rw [e] at h; cases h
  | some a =>
    rw [e] at h
    obtain ⟨h1, h2⟩ := tag1_own (Option.some.inj h)
    exact ⟨h1, by rw [h2]⟩
/-- the promise of a def that does as g says -/
def spD (M : Md) (n : Nat) (g : List AV → FR) : Sp := fun vs H Q E => vs.length = n ∧ ∃ (F : Hp) (args : List AV), Rel M (vs.map some) F H (vs.map some) (tagA 0 args) ∧
  (match g args with
  | .ok av outs => ∀ F' H' v, Rel M (vs.map some) F' H' (vs.map some) outs → Ext (own (vs.map some) (tagA 0 args)) F H (own (vs.map some) outs) F' H' →
      AVR M (own (vs.map some) (tagA 0 args)) H F' H' (own (vs.map some) outs) v av → Q v H'
  | .ex n l outs => ∀ F' H' C dx, Rel M (vs.map some) F' H' (vs.map some) outs → Ext (own (vs.map some) (tagA 0 args)) F H (own (vs.map some) outs) F' H' →
      M.mg n = some (.ref C) → XR M F' l dx → E (.ref C) dx H'
  | .bad => False)
def outA : Nat → List AV → Ev → Option Ev
  | _, [], _ => some []
  | _, _ :: _, [] => none
  | k, .dat d :: r, _ :: Γ => (outA (k + 1) r Γ).map (.dat d :: ·)
  | k, .own _ :: r, .own (some j) o :: Γ => if j = k then (outA (k + 1) r Γ).map (.own (some k) o :: ·) else none
  | _, .own _ :: _, _ => none
theorem outA_get : ∀ {k : Nat} {args : List AV} {Γ outs : Ev}, outA k args Γ = some outs → outs.length = args.length ∧ ∀ (j : Nat) (a : AV), args[j]? = some a →
    (∃ d, a = .dat d ∧ outs[j]? = some (.dat d)) ∨ (∃ o o', a = .own o ∧ outs[j]? = some (.own (some (k + j)) o') ∧ Γ[j]? = some (.own (some (k + j)) o'))
  | k, [], Γ, outs, h => by
    unfold outA at h
    cases h
    exact ⟨rfl, fun j a h => by cases h⟩
  | k, _ :: _, [], outs, h => by
    unfold outA at h
    cases h
  | k, .dat d :: r, s :: Γ, outs, h => by
    unfold outA at h
    obtain ⟨o, e1, e2⟩ := Option.map_eq_some_iff.mp h
    obtain ⟨h1, h2⟩ := outA_get e1
    subst e2
    refine ⟨by rw [List.length_cons, h1, List.length_cons], fun j a hj => ?_⟩
    cases j with
    | zero => cases hj; exact .inl ⟨d, rfl, rfl⟩
    | succ j =>
      have q := h2 j a (by simpa using hj)
      rw [show k + 1 + j = k + (j + 1) by omega] at q
      simpa using q
  | k, .own o0 :: r, s :: Γ, outs, h => by
    cases s with
    | un => unfold outA at h; cases h
    | dat d => unfold outA at h; cases h
    | own t o =>
      cases t with
      | none => unfold outA at h; cases h
      | some t =>
        unfold outA at h
        split at h
        · rename_i ht
          subst ht
          obtain ⟨o1, e1, e2⟩ := Option.map_eq_some_iff.mp h
          obtain ⟨h1, h2⟩ := outA_get e1
          subst e2
          refine ⟨by rw [List.length_cons, h1, List.length_cons], fun j a hj => ?_⟩
          cases j with
          | zero => cases hj; exact .inr ⟨o0, o, rfl, rfl, rfl⟩
          | succ j =>
            have q := h2 j a (by simpa using hj)
            rw [show t + 1 + j = t + (j + 1) by omega] at q
            simpa using q
        · cases h
def FR.mk (av : AV) (o : Option Ev) : FR := match o with
  | some o => .ok av o
  | none => .bad
def FR.mkx (n : Str) (l : List (Str × D)) (o : Option Ev) : FR := match o with
  | some o => .ex n l o
  | none => .bad
def runF (m : Nat) (body : Ev → Out) (args : List AV) : FR :=
  match body (tagA 0 args ++ List.replicate (m - args.length) .un) with
  | .nx Γ => FR.mk (.dat .non) (outA 0 args Γ)
  | .rt av Γ => FR.mk av (outA 0 args Γ)
  | .ex n l Γ => FR.mkx n l (outA 0 args Γ)
  | _ => .bad
theorem get_pad {α : Type} {l : List α} {k j : Nat} {a x : α} (h : (l ++ List.replicate k a)[j]? = some x) : l[j]? = some x ∨ x = a := by
  by_cases q : j < l.length
  · rw [List.getElem?_append_left q] at h; exact .inl h
  · rw [List.getElem?_append_right (by omega), List.getElem?_replicate] at h
    split at h
    · cases h; exact .inr rfl
    · cases h
theorem get_padL {α : Type} {l : List α} {k j : Nat} {a x : α} (h : l[j]? = some x) : (l ++ List.replicate k a)[j]? = some x := by
  rw [List.getElem?_append_left (List.getElem?_eq_some_iff.mp h).1]; exact h
theorem own_pad {σ : L2.St} {Γ : Ev} {k : Nat} (hl : σ.length = Γ.length) {b : Addr} : own (σ ++ List.replicate k none) (Γ ++ List.replicate k .un) b ↔ own σ Γ b := by
  constructor
  · rintro ⟨i, t, o, h1, h2⟩
    rcases get_pad h1 with h1 | h1
    · rw [List.getElem?_append_left (by rw [hl]; exact (List.getElem?_eq_some_iff.mp h1).1)] at h2
      exact ⟨i, t, o, h1, h2⟩
    · cases h1
  · rintro ⟨i, t, o, h1, h2⟩
    exact ⟨i, t, o, get_padL h1, get_padL h2⟩
theorem Rel.pad {M : Md} {σ : L2.St} {F H : Hp} {Γ : Ev} (k : Nat) (r : Rel M σ F H σ Γ) : Rel M (σ ++ List.replicate k none) F H (σ ++ List.replicate k none) (Γ ++ List.replicate k .un) := by
  refine ⟨r.sub, by rw [List.length_append, List.length_append, r.len, List.length_replicate, List.length_replicate], fun i s g h1 h2 => ?_, fun i j t o t' o' a h1 h2 h3 h4 => ?_⟩
  · rcases get_pad h2 with h2 | h2
    · rw [List.getElem?_append_left (by rw [r.len]; exact (List.getElem?_eq_some_iff.mp h2).1)] at h1
      have q := r.slot i s g h1 h2
      cases g with
      | un => trivial
      | dat d => exact q
      | own t o =>
        obtain ⟨a, x1, x2, x3, x4⟩ := q
        exact ⟨a, x1, x2, x3, fun k hk => get_padL (x4 k hk)⟩
    · subst h2; trivial
  · rcases get_pad h1 with h1 | h1
    · rcases get_pad h2 with h2 | h2
      · rw [List.getElem?_append_left (by rw [r.len]; exact (List.getElem?_eq_some_iff.mp h1).1)] at h3
        rw [List.getElem?_append_left (by rw [r.len]; exact (List.getElem?_eq_some_iff.mp h2).1)] at h4
        exact r.sep i j t o t' o' a h1 h2 h3 h4
      · cases h2
    · cases h1
theorem Ext.subA {A A' A'' : Addr → Prop} {F H F' H' : Hp} (e : Ext A F H A' F' H') (h : ∀ b, A'' b → A' b) : Ext A F H A'' F' H' := ⟨e.ff, e.hh, e.fn, fun b z => e.aa b (h b z)⟩
theorem Ext.congA {A B A' : Addr → Prop} {F H F' H' : Hp} (e : Ext A F H A' F' H') (h : ∀ b, A b ↔ B b) : Ext B F H A' F' H' := ⟨e.ff, fun b o n => e.hh b o fun z => n ((h b).mp z), fun b o n => e.fn b o fun z => n ((h b).mp z), fun b z => by
  rcases e.aa b z with q | q
  · exact .inl ((h b).mp q)
  · exact .inr q⟩
/-- at the end of a def -/
theorem rel_out {M : Md} {N : List Str} {vs : List V} {F H F' H' : Hp} {σ' : L2.St} {Γ' outs : Ev} {args : List AV} (r0 : Rel M (vs.map some) F H (vs.map some) (tagA 0 args)) (ho : outA 0 args Γ' = some outs)
    (r : Rel M (L2.start N vs) F' H' σ' Γ') (e : Ex F F') : Rel M (vs.map some) F' H' (vs.map some) outs ∧ ∀ b, own (vs.map some) outs b → own σ' Γ' b := by
  obtain ⟨hl, hg⟩ := outA_get ho
  have l0 := r0.len
  rw [tagA_len] at l0
  have arg_of : ∀ {j : Nat} {g : Slot}, outs[j]? = some g → ∃ a, args[j]? = some a := fun {j g} h => by
    have q := (List.getElem?_eq_some_iff.mp h).1
    rw [hl] at q
    exact ⟨_, List.getElem?_eq_getElem q⟩
  -- an own one of the outs is the slot's of old
  have key : ∀ {j : Nat} {t : Option Nat} {o : O}, outs[j]? = some (.own t o) → t = some j ∧ Γ'[j]? = some (.own t o) ∧ ∀ s, (vs.map some)[j]? = some s → ∃ a, s = some (V.ref a) ∧ σ'[j]? = some (some (.ref a)) ∧ F' a = none ∧ ORep M F' H' a o := fun {j t o} h => by
    obtain ⟨a, ha⟩ := arg_of h
    rcases hg j a ha with ⟨d, rfl, h2⟩ | ⟨o1, o', rfl, h2, h3⟩
    · rw [h] at h2; cases h2
    · rw [h] at h2
      cases h2
      rw [Nat.zero_add] at h3 ⊢
      obtain ⟨p, x1, x2, x3, x4, x5⟩ := r.own h3
      refine ⟨rfl, h3, fun s hs => ⟨p, ?_, x1, x2, x3⟩⟩
      have q := x4 j rfl
      unfold L2.start at q
      rw [List.getElem?_append_left (List.getElem?_eq_some_iff.mp hs).1, hs] at q
      exact Option.some.inj q
  refine ⟨⟨r.sub, by rw [hl, l0], fun j s g h1 h2 => ?_, fun i j t o t' o' a h1 h2 h3 h4 => ?_⟩, fun b ⟨j, t, o, h1, h2⟩ => ?_⟩
  · cases g with
    | un => trivial
    | dat d =>
      obtain ⟨a, ha⟩ := arg_of h2
      rcases hg j a ha with ⟨d', rfl, h3⟩ | ⟨o1, o', rfl, h3, _⟩
      · rw [h2] at h3; cases h3
        have q := r0.slot j s (.dat d) h1 (by rw [tagA_get, ha]; rfl)
        obtain ⟨v, q1, q2⟩ := q
        exact ⟨v, q1, q2.mono e⟩
      · rw [h2] at h3; cases h3
    | own t o =>
      obtain ⟨k1, k2, k3⟩ := key h2
      obtain ⟨a, x1, x2, x3, x4⟩ := k3 s h1
      subst x1
      refine ⟨a, rfl, x3, x4, fun k hk => ?_⟩
      rw [k1] at hk
      cases hk
      exact h1
  · obtain ⟨_, k2, k3⟩ := key h1
    obtain ⟨_, m2, m3⟩ := key h2
    obtain ⟨b, x1, x2, _⟩ := k3 _ h3
    obtain ⟨c, y1, y2, _⟩ := m3 _ h4
    cases x1
    cases y1
    exact r.sep i j t o t' o' a k2 m2 x2 y2
  · obtain ⟨_, k2, k3⟩ := key h1
    obtain ⟨c, x1, x2, _⟩ := k3 _ h2
    cases x1
    exact ⟨j, t, o, k2, x2⟩
/-- a def by its body -/
theorem fn_def {P : Program} {w : World} {K : PySem.W.Frag} {mg : Str → Option Value} {base : Heap} {x qual : Str} {st : Stmt} {f : Addr} {fd : FuncData} {N ps : List Str} {k : Nat} {g : Ev → Out} (F : Fun K x qual st f fd) (S : FnScope N ps (defScope st))
    (hbody : ∀ (cdv : Value) (A : Around) (outer : List Env) (s : Shared) (H : Hp) (vs : List V) (E : XK), Room k (A.deeper (envOfC qual (defScope st) s.heap.objs.size f cdv)) →
      DSs (cxOf (L2.CX P w) P w K mg base N qual (defScope st) f cdv A outer s H E) ⟨⟨K, mg⟩, L2.start N vs, fun cls d _ H => E cls d H⟩ (defBody st) g) : FnOk P w K mg base (L2.CX P w) (k + 1) f fd ps (spD ⟨K, mg⟩ ps.length (runF N.length g)) := by
  refine F.okX S (fun vs H Q E h => h.1) fun cdv A outer s H vs Q E hr ⟨hlen, F, args, r0, q⟩ => ⟨_, hbody cdv A outer s H vs E hr, ?_⟩
  have l0 := r0.len
  rw [tagA_len, List.length_map] at l0
  have hs : L2.start N vs = vs.map some ++ List.replicate (N.length - args.length) none := by unfold L2.start; rw [l0]
  have r1 : Rel (⟨K, mg⟩ : Md) (L2.start N vs) F H (L2.start N vs) (tagA 0 args ++ List.replicate (N.length - args.length) .un) := by rw [hs]; exact r0.pad _
  have ho : ∀ b, own (L2.start N vs) (tagA 0 args ++ List.replicate (N.length - args.length) .un) b ↔ own (vs.map some) (tagA 0 args) b := fun b => by
    rw [hs]; exact own_pad (by rw [List.length_map, tagA_len, l0])
  refine ⟨F, _, r1, ?_⟩
  unfold runF at q
  have fin : ∀ {outs : Ev} {av : AV} {Γ' : Ev} {F' H' : Hp} {σ' : L2.St} {v : V}, outA 0 args Γ' = some outs → Rel (⟨K, mg⟩ : Md) (L2.start N vs) F' H' σ' Γ' → Ext (own (L2.start N vs) (tagA 0 args ++ List.replicate (N.length - args.length) .un)) F H (own σ' Γ') F' H' →
      AVR ⟨K, mg⟩ (own (L2.start N vs) (tagA 0 args ++ List.replicate (N.length - args.length) .un)) H F' H' (own σ' Γ') v av →
      Rel (⟨K, mg⟩ : Md) (vs.map some) F' H' (vs.map some) outs ∧ Ext (own (vs.map some) (tagA 0 args)) F H (own (vs.map some) outs) F' H' ∧ AVR ⟨K, mg⟩ (own (vs.map some) (tagA 0 args)) H F' H' (own (vs.map some) outs) v av := fun {outs av Γ' F' H' σ' v} h1 r e a => by
    obtain ⟨x1, x2⟩ := rel_out r0 h1 r e.ff
    refine ⟨x1, (e.congA ho).subA x2, ?_⟩
    cases av with
    | dat d => exact a
    | own o =>
      obtain ⟨p, y1, y2, y3, y4, y5⟩ := a
      exact ⟨p, y1, y2, fun z => y3 (x2 p z), y4, y5.imp (ho p).mp id⟩
  cases hb : g (tagA 0 args ++ List.replicate (N.length - args.length) .un) with
  | nx Γ =>
    rw [hb] at q
    dsimp only at q
    cases hO : outA 0 args Γ with
    | none => rw [hO] at q; exact q.elim
    | some outs =>
      rw [hO] at q
      intro σ' F' H' r e
      obtain ⟨z1, z2, z3⟩ := fin (av := .dat .non) (v := .non) hO r e (show Rep _ _ _ _ from rep_non.mpr rfl)
      exact q F' H' .non z1 z2 z3
  | rt av Γ =>
    rw [hb] at q
    dsimp only at q
    cases hO : outA 0 args Γ with
    | none => rw [hO] at q; exact q.elim
    | some outs =>
      rw [hO] at q
      intro σ' F' H' v r e a
      obtain ⟨z1, z2, z3⟩ := fin hO r e a
      exact q F' H' v z1 z2 z3
  | ex n l Γ =>
    rw [hb] at q
    dsimp only at q
    cases hO : outA 0 args Γ with
    | none => rw [hO] at q; exact q.elim
    | some outs =>
      rw [hO] at q
      intro σ' F' H' C dx r e m x
      obtain ⟨z1, z2, z3⟩ := fin (av := .dat .non) (v := .non) hO r e (show Rep _ _ _ _ from rep_non.mpr rfl)
      exact q F' H' C dx z1 z2 m x
  | bk Γ => rw [hb] at q; exact q.elim
  | ct Γ => rw [hb] at q; exact q.elim
  | bad => rw [hb] at q; exact q.elim
def argOf (Γ : Ev) : OV → Option AV
  | .dat d => some (.dat d)
  | .slot i => match Γ[i]? with
    | some (.dat d) => some (.dat d)
    | some (.own _ o) => some (.own o)
    | _ => none
def argsOf (Γ : Ev) : List OV → Option (List AV)
  | [] => some []
  | o :: r => match argOf Γ o, argsOf Γ r with
    | some a, some as => some (a :: as)
    | _, _ => none
def hasO (i : Nat) : List OV → List AV → Bool
  | .slot j :: os, .own _ :: as => j == i || hasO i os as
  | _ :: os, _ :: as => hasO i os as
  | _, _ => false
def apartO : List OV → List AV → Bool
  | .slot i :: os, .own _ :: as => !hasO i os as && apartO os as
  | _ :: os, _ :: as => apartO os as
  | _, _ => true
theorem hasO_of : ∀ {i : Nat} {os : List OV} {as : List AV} {j : Nat} {o : O}, os[j]? = some (.slot i) → as[j]? = some (.own o) → hasO i os as = true
  | _, [], _, _, _, h, _ => by cases h
  | _, _ :: _, [], _, _, _, h => by cases h
  | i, a :: os, b :: as, 0, o, h1, h2 => by
    cases h1
    cases h2
    unfold hasO
    simp
  | i, a :: os, b :: as, j + 1, o, h1, h2 => by
    have q := hasO_of (i := i) (os := os) (as := as) (j := j) (o := o) (by simpa using h1) (by simpa using h2)
    unfold hasO
    split
    · rename_i e1 e2
      cases e1
      cases e2
      rw [q, Bool.or_true]
    · rename_i e1 e2
      cases e1
      cases e2
      exact q
    · rename_i n1 n2
      exact absurd rfl (n2 a os b as rfl)
theorem apartO_of : ∀ {os : List OV} {as : List AV}, apartO os as = true → ∀ {j k i : Nat} {o o' : O}, os[j]? = some (.slot i) → os[k]? = some (.slot i) → as[j]? = some (.own o) → as[k]? = some (.own o') → j = k
  | [], _, _, _, _, _, _, _, h, _, _, _ => by cases h
  | _ :: _, [], _, _, _, _, _, _, _, _, h, _ => by cases h
  | a :: os, b :: as, ha, j, k, i, o, o', h1, h2, h3, h4 => by
    have tail : apartO os as = true := by
      unfold apartO at ha
      split at ha
      · rename_i e1 e2
        cases e1; cases e2
        exact (Bool.and_eq_true _ _ ▸ ha).2
      · rename_i e1 e2
        cases e1; cases e2
        exact ha
      · rename_i n1 n2
        exact absurd rfl (n2 a os b as rfl)
    have head : ∀ {i : Nat} {o : O}, a = .slot i → b = .own o → hasO i os as = false := fun {i o} e1 e2 => by
      subst e1; subst e2
      unfold apartO at ha
      have q := (Bool.and_eq_true _ _ ▸ ha).1
      simpa using q
    cases j with
    | zero =>
      cases k with
      | zero => rfl
      | succ k =>
        have q1 := head (Option.some.inj h1) (Option.some.inj h3)
        rw [hasO_of (by simpa using h2) (by simpa using h4)] at q1
        cases q1
    | succ j =>
      cases k with
      | zero =>
        have q1 := head (Option.some.inj h2) (Option.some.inj h4)
        rw [hasO_of (by simpa using h1) (by simpa using h3)] at q1
        cases q1
      | succ k => 
        have z : j = k := apartO_of tail (i := i) (o := o) (o' := o') (by simpa using h1) (by simpa using h2) (by simpa using h3) (by simpa using h4)
        rw [z]
theorem argsOf_get {Γ : Ev} : ∀ {os : List OV} {as : List AV}, argsOf Γ os = some as → as.length = os.length ∧ ∀ {j : Nat} {a : AV}, as[j]? = some a → ∃ o, os[j]? = some o ∧ argOf Γ o = some a
  | [], as, h => by
    cases h
    exact ⟨rfl, fun h => by cases h⟩
  | o :: os, as, h => by
    unfold argsOf at h
    split at h
    · rename_i a as' e1 e2
      cases h
      obtain ⟨h1, h2⟩ := argsOf_get e2
      refine ⟨by rw [List.length_cons, List.length_cons, h1], fun {j a'} hj => ?_⟩
      cases j with
      | zero => cases hj; exact ⟨o, rfl, e1⟩
      | succ j => simpa using h2 (by simpa using hj)
    · cases h
theorem ovsR_get {M : Md} {σ : L2.St} {F : Hp} : ∀ {vs : List V} {os : List OV}, ovsR M σ F vs os → vs.length = os.length ∧ ∀ {j : Nat} {v : V} {o : OV}, vs[j]? = some v → os[j]? = some o → ovR M σ F v o
  | [], [], _ => ⟨rfl, fun h => by cases h⟩
  | [], _ :: _, h => h.elim
  | _ :: _, [], h => h.elim
  | v :: vs, o :: os, h => by
    obtain ⟨h1, h2⟩ := ovsR_get h.2
    refine ⟨by rw [List.length_cons, List.length_cons, h1], fun {j v' o'} e1 e2 => ?_⟩
    cases j with
    | zero => cases e1; cases e2; exact h.1
    | succ j => exact h2 (by simpa using e1) (by simpa using e2)
/-- what is handed on, told of the arguments alone -/
theorem rel_args {M : Md} {σ0 σ : L2.St} {F H : Hp} {Γ : Ev} {vs : List V} {os : List OV} {as : List AV} (r : Rel M σ0 F H σ Γ) (hv : ovsR M σ F vs os) (ha : argsOf Γ os = some as) (hp : apartO os as = true) :
    Rel M (vs.map some) F H (vs.map some) (tagA 0 as) ∧ (∀ {j : Nat} {o : O}, as[j]? = some (.own o) → ∃ i t a, os[j]? = some (.slot i) ∧ Γ[i]? = some (.own t o) ∧ σ[i]? = some (some (.ref a)) ∧ (vs.map some)[j]? = some (some (.ref a))) := by
  obtain ⟨l1, g1⟩ := argsOf_get ha
  obtain ⟨l2, g2⟩ := ovsR_get hv
  have key : ∀ {j : Nat} {o : O}, as[j]? = some (.own o) → ∃ i t a, os[j]? = some (.slot i) ∧ Γ[i]? = some (.own t o) ∧ σ[i]? = some (some (.ref a)) ∧ (vs.map some)[j]? = some (some (.ref a)) := fun {j o} h => by
    obtain ⟨ov, h1, h2⟩ := g1 h
    cases ov with
    | dat d => cases h2
    | slot i =>
      unfold argOf at h2
      dsimp only at h2
      split at h2
      · cases h2
      · rename_i t o' hg
        cases h2
        obtain ⟨a, x1, _⟩ := r.own hg
        have hj : j < vs.length := by rw [l2]; exact (List.getElem?_eq_some_iff.mp h1).1
        have q := g2 (List.getElem?_eq_getElem hj) h1
        have q' : σ[i]? = some (some vs[j]) := q
        rw [x1] at q'
        have q2 := Option.some.inj (Option.some.inj q')
        exact ⟨i, t, a, h1, hg, x1, by rw [List.getElem?_map, List.getElem?_eq_getElem hj, ← q2]; rfl⟩
      · cases h2
  refine ⟨⟨r.sub, by rw [List.length_map, tagA_len, l1, l2], fun j s g h1 h2 => ?_, fun i j t o t' o' a h1 h2 h3 h4 => ?_⟩, key⟩
  · cases g with
    | un => trivial
    | dat d =>
      rw [tagA_get] at h2
      cases e : as[j]? with
      | none => rw [e] at h2; cases h2
      | some a =>
        rw [e] at h2
        have q := tag1_dat (Option.some.inj h2)
        subst q
        obtain ⟨ov, e1, e2⟩ := g1 e
        rw [List.getElem?_map] at h1
        cases ev : vs[j]? with
        | none => rw [ev] at h1; cases h1
        | some v =>
          rw [ev] at h1
          cases h1
          have q := g2 ev e1
          refine ⟨v, rfl, ?_⟩
          cases ov with
          | dat d' => cases e2; exact q
          | slot i =>
            unfold argOf at e2
            dsimp only at e2
            split at e2
            · rename_i d' hg
              cases e2
              obtain ⟨w, x1, x2⟩ := r.dat hg
              have q' : σ[i]? = some (some v) := q
              rw [x1] at q'
              cases q'
              exact x2
            · cases e2
            · cases e2
    | own t o =>
      obtain ⟨ht, e⟩ := tagA_own h2
      obtain ⟨i, t', a, k1, k2, k3, k4⟩ := key e
      rw [h1] at k4
      cases k4
      obtain ⟨b, x1, x2, x3, x4, x5⟩ := r.own k2
      rw [k3] at x1
      cases x1
      refine ⟨a, rfl, x2, x3, fun k hk => ?_⟩
      rw [ht, Nat.zero_add] at hk
      cases hk
      exact h1
  · obtain ⟨_, e1⟩ := tagA_own h1
    obtain ⟨_, e2⟩ := tagA_own h2
    obtain ⟨i1, t1, a1, k1, k2, k3, k4⟩ := key e1
    obtain ⟨i2, t2, a2, m1, m2, m3, m4⟩ := key e2
    rw [h3] at k4
    cases k4
    rw [h4] at m4
    cases m4
    have z := r.sep i1 i2 _ _ _ _ a k2 m2 k3 m3
    subst z
    exact apartO_of hp k1 m1 e1 e2
def backG : Ev → List OV → List AV → Ev → Option Ev
  | Γ, [], [], [] => some Γ
  | Γ, .slot i :: os, .own _ :: as, .own _ o' :: gs => match Γ[i]? with
    | some (.own t _) => backG (Γ.set i (.own t o')) os as gs
    | _ => none
  | Γ, _ :: os, .dat _ :: as, .dat _ :: gs => backG Γ os as gs
  | _, _, _, _ => none
theorem backG_spec : ∀ {os : List OV} {as : List AV} {gs Γ Γ2 : Ev}, backG Γ os as gs = some Γ2 → apartO os as = true → Γ2.length = Γ.length ∧ as.length = os.length ∧ gs.length = os.length ∧
    (∀ i : Nat, (∀ (j : Nat) (o : O), os[j]? = some (.slot i) → as[j]? ≠ some (.own o)) → Γ2[i]? = Γ[i]?) ∧
    (∀ (j i : Nat) (o : O), os[j]? = some (.slot i) → as[j]? = some (.own o) → ∃ t o0 t' o', gs[j]? = some (.own t' o') ∧ Γ[i]? = some (.own t o0) ∧ Γ2[i]? = some (.own t o')) ∧
    (∀ (j : Nat) (t' : Option Nat) (o' : O), gs[j]? = some (.own t' o') → ∃ o, as[j]? = some (.own o))
  | [], [], [], Γ, Γ2, h, hp => by
    unfold backG at h
    cases h
    refine ⟨rfl, rfl, rfl, fun _ _ => rfl, fun j i o h _ => ?_, fun j t o h => ?_⟩ <;> cases h
  | [], [], _ :: _, Γ, Γ2, h, hp => by
    unfold backG at h
    exact nomatch h
  | [], a :: _, gs, Γ, Γ2, h, hp => by
    cases a <;> cases gs <;> exact nomatch h
  | o :: _, [], gs, Γ, Γ2, h, hp => by
    cases o <;> cases gs <;> exact nomatch h
  | o :: os, a :: as, [], Γ, Γ2, h, hp => by
    cases o <;> cases a <;> exact nomatch h
  | .slot i :: os, .own o1 :: as', .own t1 o' :: gs', Γ, Γ2, h, hp => by
    unfold backG at h
    split at h
    · rename_i t o0 hg
      have hp2 : apartO os as' = true := by
        unfold apartO at hp
        exact (Bool.and_eq_true _ _ ▸ hp).2
      obtain ⟨a1, a2, a3, a4, a5, a6⟩ := backG_spec h hp2
      have hi : i < Γ.length := (List.getElem?_eq_some_iff.mp hg).1
      refine ⟨by rw [a1, List.length_set], by rw [List.length_cons, List.length_cons, a2], by rw [List.length_cons, List.length_cons, a3], fun k hk => ?_, fun j k o2 h1 h2 => ?_, fun j t' o' h1 => ?_⟩
      · have nk : i ≠ k := fun z => hk 0 o1 (by rw [z]; rfl) rfl
        rw [a4 k fun j o2 q1 q2 => hk (j + 1) o2 (by simpa using q1) (by simpa using q2), List.getElem?_set_ne nk]
      · cases j with
        | zero =>
          cases h1
          refine ⟨t, o0, t1, o', rfl, hg, ?_⟩
          rw [a4 i fun j o2 q1 q2 => ?_, List.getElem?_set_self hi]
          have z : (0 : Nat) = j + 1 := apartO_of hp (i := i) (o := o1) (o' := o2) rfl (by simpa using q1) rfl (by simpa using q2)
          omega
        | succ j =>
          have q1 : os[j]? = some (.slot k) := by simpa using h1
          have q2 : as'[j]? = some (.own o2) := by simpa using h2
          obtain ⟨t2, o3, t3, o4, b1, b2, b3⟩ := a5 j k o2 q1 q2
          have nk : i ≠ k := fun z => by
            have z2 : (0 : Nat) = j + 1 := apartO_of hp (i := i) (o := o1) (o' := o2) rfl (by rw [z]; simpa using q1) rfl (by simpa using q2)
            omega
          rw [List.getElem?_set_ne nk] at b2
          exact ⟨t2, o3, t3, o4, by simpa using b1, b2, b3⟩
      · cases j with
        | zero => exact ⟨o1, rfl⟩
        | succ j => simpa using a6 j t' o' (by simpa using h1)
    · cases h
  | .slot i :: os, .own o1 :: as', .dat _ :: gs', Γ, Γ2, h, hp => by
    unfold backG at h
    exact nomatch h
  | .slot i :: os, .own o1 :: as', .un :: gs', Γ, Γ2, h, hp => by
    unfold backG at h
    exact nomatch h
  | .dat i :: os, .own o1 :: as', g :: gs', Γ, Γ2, h, hp => by
    cases g <;> exact nomatch h
  | o :: os, .dat d :: as', .own _ _ :: gs', Γ, Γ2, h, hp => by
    cases o <;> exact nomatch h
  | o :: os, .dat d :: as', .un :: gs', Γ, Γ2, h, hp => by
    cases o <;> exact nomatch h
  | o :: os, .dat d :: as', .dat d2 :: gs', Γ, Γ2, h, hp => by
    have h' : backG Γ os as' gs' = some Γ2 := by
      cases o <;> exact h
    have hp2 : apartO os as' = true := by
      cases o <;> exact hp
    obtain ⟨a1, a2, a3, a4, a5, a6⟩ := backG_spec h' hp2
    refine ⟨a1, by rw [List.length_cons, List.length_cons, a2], by rw [List.length_cons, List.length_cons, a3], fun k hk => ?_, fun j k o2 h1 h2 => ?_, fun j t' o' h1 => ?_⟩
    · exact a4 k fun j o2 q1 q2 => hk (j + 1) o2 (by simpa using q1) (by simpa using q2)
    · cases j with
      | zero => cases h2
      | succ j => simpa using a5 j k o2 (by simpa using h1) (by simpa using h2)
    · cases j with
      | zero => cases h1
      | succ j => simpa using a6 j t' o' (by simpa using h1)
theorem rel_back {M : Md} {σ0 σ : L2.St} {F H F2 H2 : Hp} {Γ Γ2 outs : Ev} {vs : List V} {os : List OV} {as : List AV} (r : Rel M σ0 F H σ Γ) (hv : ovsR M σ F vs os) (ha : argsOf Γ os = some as) (hp : apartO os as = true)
    (hb : backG Γ os as outs = some Γ2) (r2 : Rel M (vs.map some) F2 H2 (vs.map some) outs) (e : Ext (own (vs.map some) (tagA 0 as)) F H (own (vs.map some) outs) F2 H2) :
    Rel M σ0 F2 H2 σ Γ2 ∧ Ext (own σ Γ) F H (own σ Γ2) F2 H2 ∧ ∀ b, own σ Γ2 b → own (vs.map some) outs b ∨ (own σ Γ b ∧ ¬ own (vs.map some) (tagA 0 as) b) := by
  obtain ⟨ra, key⟩ := rel_args r hv ha hp
  obtain ⟨b1, b2, b3, b4, b5, b6⟩ := backG_spec hb hp
  have sub : ∀ b, own (vs.map some) (tagA 0 as) b → own σ Γ b := fun b ⟨j, t, o, h1, h2⟩ => by
    obtain ⟨_, e1⟩ := tagA_own h1
    obtain ⟨i, t', a, k1, k2, k3, k4⟩ := key e1
    rw [h2] at k4
    cases k4
    exact ⟨i, t', o, k2, k3⟩
  -- a slot behind the call: one that was handed on, or one that stands
  have cls : ∀ {i : Nat} {g : Slot}, Γ2[i]? = some g → (∃ (j : Nat) (t : Option Nat) (o' : O) (t' : Option Nat), g = .own t o' ∧ outs[j]? = some (.own t' o') ∧ (∃ o0, Γ[i]? = some (.own t o0)) ∧ ∃ a : Addr, σ[i]? = some (some (.ref a)) ∧ (vs.map some)[j]? = some (some (.ref a))) ∨
      (Γ[i]? = some g ∧ ∀ t o a, g = .own t o → σ[i]? = some (some (.ref a)) → ¬ own (vs.map some) (tagA 0 as) a) := fun {i g} h => by
    by_cases c : ∃ (j : Nat) (o : O), os[j]? = some (.slot i) ∧ as[j]? = some (.own o)
    · obtain ⟨j, o, c1, c2⟩ := c
      obtain ⟨t, o0, t', o', x1, x2, x3⟩ := b5 j i o c1 c2
      rw [h] at x3
      cases x3
      obtain ⟨i', t2, a, k1, k2, k3, k4⟩ := key c2
      rw [c1] at k1
      cases k1
      exact .inl ⟨j, t, o', t', rfl, x1, ⟨o0, x2⟩, a, k3, k4⟩
    · have q := b4 i fun j o q1 q2 => c ⟨j, o, q1, q2⟩
      rw [h] at q
      refine .inr ⟨q.symm, fun t o a eg hs ⟨j, t2, o2, h1, h2⟩ => ?_⟩
      subst eg
      obtain ⟨_, e1⟩ := tagA_own h1
      obtain ⟨i', t', a', k1, k2, k3, k4⟩ := key e1
      rw [h2] at k4
      cases k4
      have z := r.sep i i' _ _ _ _ a q.symm k2 hs k3
      subst z
      exact c ⟨j, o2, k1, e1⟩
  have ownsub : ∀ b, own σ Γ2 b → own (vs.map some) outs b ∨ (own σ Γ b ∧ ¬ own (vs.map some) (tagA 0 as) b) := fun b ⟨i, t, o, h1, h2⟩ => by
    rcases cls h1 with ⟨j, t2, o', t', e1, e2, e3, a, e4, e5⟩ | ⟨e1, e2⟩
    · rw [h2] at e4
      cases e4
      exact .inl ⟨j, t', o', e2, e5⟩
    · exact .inr ⟨⟨i, t, o, e1, h2⟩, e2 t o b rfl h2⟩
  refine ⟨⟨r2.sub, by rw [b1, r.len], fun i s g h1 h2 => ?_, fun i j t o t' o' a h1 h2 h3 h4 => ?_⟩, ⟨e.ff, fun b o n => e.hh b o fun z => n (sub b z), fun b o n => e.fn b o fun z => n (sub b z), fun b z => ?_⟩, ownsub⟩
  · rcases cls h2 with ⟨j, t2, o', t', e1, e2, ⟨o0, e3⟩, a, e4, e5⟩ | ⟨e1, e2⟩
    · subst e1
      rw [h1] at e4
      cases e4
      obtain ⟨a', x1, x2, x3, x4, x5⟩ := r2.own e2
      rw [e5] at x1
      cases x1
      obtain ⟨a2, y1, y2, y3, y4, y5⟩ := r.own e3
      rw [h1] at y1
      cases y1
      exact ⟨a, rfl, x2, x3, y4⟩
    · have q := r.slot i s g h1 e1
      cases g with
      | un => trivial
      | dat d => obtain ⟨v, q1, q2⟩ := q; exact ⟨v, q1, q2.mono e.ff⟩
      | own t o =>
        obtain ⟨a, q1, q2, q3, q4⟩ := q
        subst q1
        have na := e2 t o a rfl h1
        obtain ⟨u, hu⟩ := q3.some
        exact ⟨a, rfl, e.fn a u na hu q2 (q3.nt hu), q3.mono e.ff (by rw [e.hh a u na hu, hu]), q4⟩
  · have f : ∀ {i : Nat} {t : Option Nat} {o : O}, Γ2[i]? = some (.own t o) → ∃ o0, Γ[i]? = some (.own t o0) := fun {i t o} h => by
      rcases cls h with ⟨j, t2, o', t', e1, e2, ⟨o0, e3⟩, _⟩ | ⟨e1, e2⟩
      · cases e1; exact ⟨o0, e3⟩
      · exact ⟨o, e1⟩
    obtain ⟨_, f1⟩ := f h1
    obtain ⟨_, f2⟩ := f h2
    exact r.sep i j _ _ _ _ a f1 f2 h3 h4
  · rcases ownsub b z with q | q
    · rcases e.aa b q with q | q
      · exact .inl (sub b q)
      · exact .inr q
    · exact .inl q.1
def FR.back (Γ : Ev) (os : List OV) (as : List AV) : FR → Rs AV
  | .ok av outs => match backG Γ os as outs with
    | some Γ2 => .ok av Γ2
    | none => .bad
  | .ex n l outs => match backG Γ os as outs with
    | some Γ2 => .ex n l Γ2
    | none => .bad
  | .bad => .bad
def callR (g : List AV → FR) (os : List OV) (Γ : Ev) : Rs AV :=
  match argsOf Γ os with
  | some as => if apartO os as = true then FR.back Γ os as (g as) else .bad
  | none => .bad
theorem po_call {c : Cf} {g : List AV → FR} {σ : L2.St} {F H F1 H1 : Hp} {Γ Γ1 : Ev} {os : List OV} {vs : List V} {Q : VK} {n : Nat} (rel : Rel c.M c.σ0 F1 H1 σ Γ1) (e : Ext (own σ Γ) F H (own σ Γ1) F1 H1)
    (hv : ovsR c.M σ F1 vs os) (hn : vs.length = n) (q : Po c (vrO c.M) σ F H Γ (callR g os Γ1) Q) : spD c.M n g vs H1 Q (WE c.W σ) := by
  unfold callR at q
  split at q
  · rename_i as ha
    split at q
    · rename_i hp
      obtain ⟨ra, key⟩ := rel_args rel hv ha hp
      have l0 := ra.len
      rw [tagA_len] at l0
      refine ⟨hn, F1, as, ra, ?_⟩
      cases hg : g as with
      | bad => rw [hg] at q; exact q.elim
      | ok av outs =>
        rw [hg] at q
        unfold FR.back at q
        dsimp only at q ⊢
        split at q
        · rename_i Γ2 hb
          intro F' H' v r2 e2 a2
          obtain ⟨r3, e3, o3⟩ := rel_back rel hv ha hp hb r2 e2
          refine q F' H' v r3 (e.trans e3) (sh_O _ _ _ _ _ _ _ _ _ _ _ _ e ?_)
          cases av with
          | dat d => exact a2
          | own o =>
            obtain ⟨p, x1, x2, x3, x4, x5⟩ := a2
            have hnew : own (vs.map some) (tagA 0 as) p ∨ H1 p = none := x5
            refine ⟨p, x1, x2, fun z => ?_, x4, ?_⟩
            · rcases o3 p z with z | ⟨z, z2⟩
              · exact x3 z
              · rcases hnew with w | w
                · exact z2 w
                · obtain ⟨_, u, hu⟩ := rel.ownF z
                  rw [w] at hu; cases hu
            · rcases hnew with w | w
              · obtain ⟨j, t, o, h1, h2⟩ := w
                obtain ⟨_, e1⟩ := tagA_own h1
                obtain ⟨i, t', a, k1, k2, k3, k4⟩ := key e1
                rw [h2] at k4
                cases k4
                exact .inl ⟨i, t', o, k2, k3⟩
              · exact .inr w
        · exact q.elim
      | ex n l outs =>
        rw [hg] at q
        unfold FR.back at q
        dsimp only at q ⊢
        split at q
        · rename_i Γ2 hb
          intro F' H' C dx r2 e2 m x
          obtain ⟨r3, e3, _⟩ := rel_back rel hv ha hp hb r2 e2
          exact q F' H' C dx r3 (e.trans e3) m x
        · exact q.elim
    · exact q.elim
  · exact q.elim
end Nv
-- N10
namespace Nv
open PySem PySem.Spec PyProof.Rows L2
open Evl (Ex)
structure DefOk (P : Program) (w : World) (K : PySem.W.Frag) (mg : Str → Option Value) (base : Heap) (k : Nat) (x : Str) (n : Nat) (g : List AV → FR) : Prop where
  ex : ∃ (f : Addr) (fd : FuncData) (ps : List Str), mg x = some (.ref f) ∧ PySem.W.keepIn K (.ref f) = true ∧ Binds K fd ps [] ∧ ps.length = n ∧ FnOk P w K mg base (L2.CX P w) k f fd ps (spD ⟨K, mg⟩ n g)
/-- the class cn may be made; its __init__ -/
structure MakeOk (P : Program) (w : World) (K : PySem.W.Frag) (mg : Str → Option Value) (base : Heap) (k : Nat) (cn : Str) (n : Nat) (g : List AV → FR) : Prop where
  ex : ∃ (C f : Addr) (fd : FuncData) (ps : List Str), mg cn = some (.ref C) ∧ Mk K C f ∧ Binds K fd ps [] ∧ ps.length = n ∧ FnOk P w K mg base (L2.CX P w) k f fd ps (spD ⟨K, mg⟩ n g)
section
variable {X : Cx} {c : Cf} {x m cn : Str} {p pos apos : Pos} {e o : Expr} {es : List Expr} {k k' n : Nat} {g : List AV → FR} {f : Ev → Rs (List OV)} {fo : Ev → Rs OV}
def callO (n : Nat) (g : List AV → FR) (f : Ev → Rs (List OV)) : Ev → Rs AV := fun Γ => (f Γ).bind fun os Γ => if os.length = n then callR g os Γ else .bad
theorem rd_call {σ : L2.St} {H : Hp} {Q : VK} (h : tR c (vrO c.M) (callO n g f) σ H Q) : tR c (vrA c.M) f σ H fun vs H1 => spD c.M n g (vs ++ []) H1 Q (WE c.W σ) := by
  obtain ⟨F, Γ, r, q⟩ := h
  refine ⟨F, Γ, r, ?_⟩
  refine (Po.bind (R := vrA c.M) q).imp fun vs H1 ⟨F1, Γ1, os, r1, e1, a1, q1⟩ => ?_
  split at q1
  · rename_i hl
    rw [List.append_nil]
    exact po_call r1 e1 a1 ((ovsR_get a1).1.trans hl) q1
  · exact q1.elim
theorem do_call (D : DefOk X.prog X.w X.K X.mg X.base k x n g) (hk : k ≤ k') (hr : Room k' X.A) (tk : Takes X c.W) (hM : c.M = ⟨X.K, X.mg⟩) (ha : DA X c (e :: es) f) (hg : Gl X x := by rfl) (hdb : (x == ("__debug__" : Str)) = false := by decide)
    (he : starEach (e :: es) X.env = (false, eval e X.env) :: starEach es X.env := by rfl) (hpl : (backTo pos (starEach es X.env)).any (·.1) = false := by rfl) : DO X c (.Call (.Name x p) (e :: es) [] pos) (callO n g f) := by
  obtain ⟨f0, fd, ps, h1, h2, h3, h4, F⟩ := D.ex
  refine PE.of (pe_callSD F (hr.mono hk) hg h1 h2 h3 .nil (fun σ => passAt tk σ) ha hdb he hpl) fun σ H Q h => ?_
  have q := rd_call h
  rw [hM] at q ⊢
  exact q
def isIns (cn m : Str) : D → Bool
  | .ins n l => n == cn && (l.lookup m).isNone
  | _ => false
def methO (cn m : Str) (n : Nat) (g : List AV → FR) (fo : Ev → Rs OV) (f : Ev → Rs (List OV)) : Ev → Rs AV := fun Γ => (fo Γ).bind fun ov Γ =>
  if (match ov.get Γ with | some d => isIns cn m d | none => false) = true then (f Γ).bind fun os Γ => if os.length + 1 = n then callR g (ov :: os) Γ else .bad
  else .bad
theorem RepF.none {M : Md} {F : Hp} {f : Str} : ∀ {l : List (Str × D)} {xs : List (Str × V)}, RepF M F l xs → l.lookup f = none → xs.lookup f = Option.none
  | [], _, h, e => by rw [repF_nil.mp h]; rfl
  | p :: l, _, h, e => by
    obtain ⟨v, r, rfl, h1, h2⟩ := repF_cons.mp h
    obtain ⟨k, d'⟩ := p
    rw [List.lookup_cons] at e ⊢
    cases q : f == k with
    | true => rw [q] at e; cases e
    | false => rw [q] at e; exact RepF.none h2 e
theorem run_makeSD {C f : Addr} {fd : FuncData} {ps : List Str} {sp : Sp} {E : XK} {CX : CXT} {pins : List (Addr × Obj)} {σ : L2.St} {H : Hp} {s : Shared} {Q : VK} {us : List Value} {vs : List V} (M : Mk X.K C f) (F : FnOk X.prog X.w X.K X.mg X.base CX k f fd ps sp) (hr : Room (k + 1) X.A) (hb : Binds X.K fd ps [])
    (hx : PassesAt CX X σ E) (I : Inv X pins σ H s) (r : Vals vs us)
    (h : ∀ x dx, H x = none → H dx = none → dx ≠ x → sp (.ref x :: vs) (upd (upd H dx (.own x)) x (.ins C dx [])) (fun v H2 => v = .non ∧ Q (.ref x) H2) E) :
    wpAny (model X.prog X.w) X.A (call (.ref C) us) (EP X pins σ Q) X.xe s := by
  have hq := h (s.heap.objs.size + 1) s.heap.objs.size (I.hok.fresh (Nat.le_succ _)) (I.hok.fresh (Nat.le_refl _)) (Nat.ne_of_lt (Nat.lt_succ_self _))
  have I2 := Inv.made (C := C) I
  have r2 : Vals (V.ref (s.heap.objs.size + 1) :: vs) (Value.ref (s.heap.objs.size + 1) :: us) := .cons rfl r
  have hl : (Value.ref (s.heap.objs.size + 1) :: us).length = ps.length := by
    have e := r2.length
    rw [F.len _ _ _ _ hq] at e
    exact e.symm
  have hb2 := hb _ (Value.ref (s.heap.objs.size + 1) :: us) I2.kIn (by rw [List.append_nil]; exact hl)
  rw [List.append_nil] at hb2
  refine wpAny_call (make_map (f := f) I.kIn M.makes M.init (beq_iff_eq.mp M.fn) (codeAny_mono (F.run _ X.stack _ _ ⟨Value.ref (s.heap.objs.size + 1) :: us, []⟩ (Value.ref (s.heap.objs.size + 1) :: us) _ _ E (hr.make C us [])
    (I2.env0.make C us []) hb2 r2 hq) fun r s' hq' => ?_))
  cases r with
  | error e => exact hx pins _ _ e s' I2 hq'
  | ok fl =>
    cases fl with
    | ret u =>
      obtain ⟨v, H', I3, rv, ev, q3⟩ := I2.after hq'
      subst ev
      exact ⟨rv, ⟨V.ref (s.heap.objs.size + 1), H', I3, rfl, q3⟩⟩
    | next => exact False.elim hq'
    | brk => exact False.elim hq'
    | cont => exact False.elim hq'
def tMakeSD (C : Addr) (sp : Sp) (E : L2.St → XK) (t : TA) : TE := fun σ H Q => t σ H fun vs H1 => ∀ x dx, H1 x = none → H1 dx = none → dx ≠ x →
  sp (.ref x :: vs) (upd (upd H1 dx (.own x)) x (.ins C dx [])) (fun v H2 => v = .non ∧ Q (.ref x) H2) (E σ)
theorem pe_makeSD {C f : Addr} {fd : FuncData} {ps : List Str} {sp : Sp} {E : L2.St → XK} {CX : CXT} {t : TA} (M : Mk X.K C f) (F : FnOk X.prog X.w X.K X.mg X.base CX k f fd ps sp) (hr : Room (k + 1) X.A) (hg : Gl X x) (hm : X.mg x = some (.ref C)) (hb : Binds X.K fd ps []) (hx : ∀ σ, PassesAt CX X σ (E σ))
    (ha : PA X (e :: es) t) (hdb : (x == ("__debug__" : Str)) = false := by decide) (he : starEach (e :: es) X.env = (false, eval e X.env) :: starEach es X.env := by rfl) (hpl : (backTo pos (starEach es X.env)).any (·.1) = false := by rfl) :
    PE X (.Call (.Name x p) (e :: es) [] pos) (tMakeSD C sp E t) := by
  refine ⟨fun pins s σ H Q I h => ?_⟩
  refine wpAny_Call_Name_kw (ld_glob I hg hm ?_ hdb)
  refine PySem.W.callWith_K (h₀ := X.base) I.ok.mod.kin M.kp (thn (ha.run pos pins s σ H _ I h) fun us s1 ⟨vs, H1, I1, r, q⟩ => ⟨I1.kIn, ?_⟩) he hpl
  exact run_makeSD M F hr hb (hx σ) I1 r q
def makeR (cn : Str) (g : List AV → FR) (os : List OV) (Γ : Ev) : Rs AV :=
  match dats os with
  | some ds => (match g (.own (.ins cn []) :: ds.map .dat) with
    | .ok (.dat .non) (.own _ o :: _) => .ok (.own o) Γ
    | .ex n l _ => .ex n l Γ
    | _ => .bad)
  | none => .bad
def makeO (cn : Str) (n : Nat) (g : List AV → FR) (f : Ev → Rs (List OV)) : Ev → Rs AV := fun Γ => (f Γ).bind fun os Γ => if os.length + 1 = n then makeR cn g os Γ else .bad
theorem tagA_dats : ∀ {l : List D} {k j : Nat} {g : Slot}, (tagA k (l.map .dat))[j]? = some g → ∃ d, g = .dat d ∧ l[j]? = some d := fun {l k j g} h => by
  rw [tagA_get, List.getElem?_map] at h
  cases e : l[j]? with
  | none => rw [e] at h; cases h
  | some d => rw [e] at h; cases h; exact ⟨d, rfl, rfl⟩
/-- the callee's slots where a new instance is handed on with data -/
theorem rel_make {M : Md} {F H : Hp} {ds : List D} {vs : List V} {C x dx : Addr} {fs : List (Str × V)} (sub : Ex F H) (hr : Reps M F ds vs) (hC : M.mg cn = some (.ref C)) (nx : F x = none) (hx : H x = some (.ins C dx [])) :
    Rel M ((V.ref x :: vs).map some) F H ((V.ref x :: vs).map some) (tagA 0 (.own (.ins cn []) :: ds.map .dat)) ∧ ∀ b, own ((V.ref x :: vs).map some) (tagA 0 (.own (.ins cn []) :: ds.map .dat)) b ↔ b = x := by
  have one : ∀ {j : Nat} {t : Option Nat} {o : O}, (tagA 0 (.own (.ins cn []) :: ds.map .dat))[j]? = some (.own t o) → j = 0 := fun {j t o} h => by
    cases j with
    | zero => rfl
    | succ j =>
      rw [tagA_cons, List.getElem?_cons_succ] at h
      obtain ⟨d, h1, _⟩ := tagA_dats h
      cases h1
  refine ⟨⟨sub, by rw [List.length_map, tagA_len, List.length_cons, List.length_cons, List.length_map, hr.length], fun j s g h1 h2 => ?_, fun i j t o t' o' a h1 h2 h3 h4 => by rw [one h1, one h2]⟩, fun b => ⟨fun ⟨j, t, o, h1, h2⟩ => ?_, fun h => ?_⟩⟩
  · cases j with
    | zero =>
      cases h1
      cases h2
      exact ⟨x, rfl, nx, ⟨C, dx, [], hC, hx, repF_nil.mpr rfl⟩, fun k hk => by cases hk; rfl⟩
    | succ j =>
      rw [tagA_cons, List.getElem?_cons_succ] at h2
      rw [List.map_cons, List.getElem?_cons_succ, List.getElem?_map] at h1
      obtain ⟨d, rfl, e2⟩ := tagA_dats h2
      obtain ⟨v, x1, x2⟩ := hr.get e2
      rw [x1] at h1
      cases h1
      exact ⟨v, rfl, x2⟩
  · rw [one h1] at h2
    cases h2
    rfl
  · subst h
    exact ⟨0, some 0, .ins cn [], rfl, rfl⟩
theorem rd_make {C : Addr} (hC : c.M.mg cn = some (.ref C)) {σ : L2.St} {H : Hp} {Q : VK} (h : tR c (vrO c.M) (makeO cn n g f) σ H Q) : tMakeSD C (spD c.M n g) (WE c.W) (tR c (vrA c.M) f) σ H Q := by
  obtain ⟨F, Γ, r, q⟩ := h
  refine ⟨F, Γ, r, ?_⟩
  refine (Po.bind (R := vrA c.M) q).imp fun vs H1 ⟨F1, Γ1, os, r1, e1, a1, q1⟩ => ?_
  intro x dx nx ndx ne
  split at q1
  · rename_i hn
    have hlen := (ovsR_get a1).1
    unfold makeR at q1
    split at q1
    · rename_i ds hd
      have hr := dats_reps hd a1
      have n1 : (upd H1 dx (.own x)) x = none := by rw [upd_ne (Ne.symm ne)]; exact nx
      have x1 : Ex H1 (upd (upd H1 dx (.own x)) x (.ins C dx [])) := (Evl.Ex.new ndx).trans (Evl.Ex.new n1)
      obtain ⟨rm, om⟩ := rel_make (cn := cn) (C := C) (x := x) (dx := dx) (fs := []) (r1.sub.trans x1) hr hC (r1.fr nx) upd_same
      refine ⟨by rw [List.length_cons, hlen, hn], F1, _, rm, ?_⟩
      -- what the caller's own objects are behind __init__
      have back : ∀ {outs : Ev} {F' H' : Hp}, Ext (own ((V.ref x :: vs).map some) (tagA 0 (.own (.ins cn []) :: ds.map .dat))) F1 (upd (upd H1 dx (.own x)) x (.ins C dx [])) (own ((V.ref x :: vs).map some) outs) F' H' → Ex F' H' →
          Rel c.M c.σ0 F' H' σ Γ1 ∧ Ext (own σ Γ1) F1 H1 (own σ Γ1) F' H' ∧ ¬ own σ Γ1 x := fun {outs F' H'} e2 sub2 => by
        have nox : ¬ own σ Γ1 x := fun z => by
          obtain ⟨_, u, hu⟩ := r1.ownF z
          rw [nx] at hu; cases hu
        have st : ∀ b u, H1 b = some u → H' b = some u := fun b u hb => e2.hh b u (fun z => by rw [(om b).mp z, nx] at hb; cases hb) (x1 b u hb)
        have sf : ∀ b u, H1 b = some u → F1 b = none → NT u → F' b = none := fun b u hb hf => e2.fn b u (fun z => by rw [(om b).mp z, nx] at hb; cases hb) (x1 b u hb) hf
        refine ⟨r1.grow e2.ff sub2 fun b z => ?_, ⟨e2.ff, fun b u _ hb => st b u hb, fun b u _ hb hf => sf b u hb hf, fun b z => .inl z⟩, nox⟩
        obtain ⟨f1, u, hu⟩ := r1.ownF z
        exact ⟨by rw [st b u hu, hu], sf b u hu f1 (r1.ownNT z hu)⟩
      cases hg : g (.own (.ins cn []) :: ds.map .dat) with
      | bad => rw [hg] at q1; exact q1.elim
      | ex n' l outs =>
        rw [hg] at q1
        intro F' H' C' dx' r2 e2 m2 x2
        obtain ⟨b1, b2, _⟩ := back e2 r2.sub
        exact q1 F' H' C' dx' b1 (e1.trans b2) m2 x2
      | ok av outs =>
        rw [hg] at q1
        dsimp only at q1 ⊢
        split at q1
        · rename_i t o rest' heq
          cases heq
          intro F' H' v r2 e2 a2
          obtain ⟨b1, b2, b3⟩ := back e2 r2.sub
          have hv : v = .non := rep_non.mp (show Rep c.M F' .non v from a2)
          refine ⟨hv, ?_⟩
          obtain ⟨y, y1, y2, y3, y4, y5⟩ := r2.own (i := 0) rfl
          cases y1
          exact q1 F' H' (.ref x) b1 (e1.trans b2) ⟨x, rfl, y2, b3, y3, e1.back (.inr nx)⟩
        · rename_i heq; cases heq
        · exact q1.elim
    · exact q1.elim
  · exact q1.elim
theorem do_make (D : MakeOk X.prog X.w X.K X.mg X.base k x n g) (hk : k + 1 ≤ k') (hr : Room k' X.A) (tk : Takes X c.W) (hM : c.M = ⟨X.K, X.mg⟩) (ha : DA X c (e :: es) f) (hg : Gl X x := by rfl) (hdb : (x == ("__debug__" : Str)) = false := by decide)
    (he : starEach (e :: es) X.env = (false, eval e X.env) :: starEach es X.env := by rfl) (hpl : (backTo pos (starEach es X.env)).any (·.1) = false := by rfl) : DO X c (.Call (.Name x p) (e :: es) [] pos) (makeO x n g f) := by
  obtain ⟨C, f0, fd, ps, h1, h2, h3, h4, F⟩ := D.ex
  refine PE.of (pe_makeSD h2 F (hr.mono hk) hg h1 h3 (fun σ => passAt tk σ) ha hdb he hpl) fun σ H Q h => ?_
  have q := rd_make (C := C) (by rw [hM]; exact h1) h
  rw [hM] at q ⊢
  exact q
end
end Nv
-- N11
namespace Nv
open PySem PySem.Spec PyProof.Rows L2
open Evl (Ex)
section
variable {X : Cx} {c : Cf} {a b d e : Expr} {rest es : List Expr} {pos : Pos}
def andT (t u : Ev → Rs Bool) : Ev → Rs Bool := fun Γ => (t Γ).bind fun k Γ => if k = true then u Γ else .ok false Γ
def orT (t u : Ev → Rs Bool) : Ev → Rs Bool := fun Γ => (t Γ).bind fun k Γ => if k = true then .ok true Γ else u Γ
def notT (t : Ev → Rs Bool) : Ev → Rs Bool := fun Γ => (t Γ).bind fun k Γ => .ok (!k) Γ
abbrev DW (X : Cx) (c : Cf) (e : Expr) (f : Ev → Rs Bool) : Prop := PW X e (tR c vrT f)
theorem PW.of {X : Cx} {e : Expr} {t t' : TT} (h : PW X e t) (i : ∀ σ H Q, t' σ H Q → t σ H Q) : PW X e t' := ⟨fun wh pins s σ H Q I q => h.run wh pins s σ H Q I (i σ H Q q)⟩
theorem dw_and1 {t : Ev → Rs Bool} (h : DT X c a t) : DW X c (.BoolOp .And [a] pos) t := pw_and1 h
theorem rd_if {t u : Ev → Rs Bool} {k0 : Bool} {σ : L2.St} {H : Hp} {Q : Bool → Hp → Prop} (h : tR c vrT (fun Γ => (t Γ).bind fun k Γ => if k = true then (if k0 = true then u Γ else .ok true Γ) else (if k0 = true then .ok false Γ else u Γ)) σ H Q) :
    tR c vrT t σ H fun k H1 => if k = true then (if k0 = true then tR c vrT u σ H1 Q else Q true H1) else (if k0 = true then Q false H1 else tR c vrT u σ H1 Q) := by
  obtain ⟨F, Γ, r, q⟩ := h
  refine ⟨F, Γ, r, (Po.bind (R := vrT) q).imp fun v H' ⟨F', Γ', k, r1, e1, a1, q1⟩ => ?_⟩
  have a2 : v = k := a1
  subst a2
  cases v <;> cases k0
  · rw [if_neg (by decide), if_neg (by decide)] at q1 ⊢
    exact ⟨F', Γ', r1, Po.shift sh_T e1 q1⟩
  · rw [if_neg (by decide), if_pos rfl] at q1 ⊢
    exact q1 F' H' false r1 e1 rfl
  · rw [if_pos rfl, if_neg (by decide)] at q1 ⊢
    exact q1 F' H' true r1 e1 rfl
  · rw [if_pos rfl, if_pos rfl] at q1 ⊢
    exact ⟨F', Γ', r1, Po.shift sh_T e1 q1⟩
theorem dw_and {t u : Ev → Rs Bool} (h : DT X c a t) (h2 : DW X c (.BoolOp .And (b :: rest) pos) u) : DW X c (.BoolOp .And (a :: b :: rest) pos) (andT t u) := PW.of (pw_and h h2) fun σ H Q q => rd_if (k0 := true) q
theorem dt_bool {t : Ev → Rs Bool} (h : DW X c e t) : DT X c e t := h.pt
theorem dt_not {t : Ev → Rs Bool} (h : DT X c a t) : DT X c (.UnaryOp .Not a pos) (notT t) := PT.of (pt_not h) fun σ H Q ⟨F, Γ, r, q⟩ => ⟨F, Γ, r, (Po.bind (R := vrT) q).imp fun v H' ⟨F', Γ', k, r1, e1, a1, q1⟩ => by
  have a2 : v = k := a1
  subst a2
  exact q1 F' H' _ r1 e1 rfl⟩
def andO (f g : Ev → Rs AV) : Ev → Rs AV := fun Γ => (f Γ).bind fun av Γ => match av with
  | .dat (.bl true) => g Γ
  | .dat (.bl false) => .ok (.dat (.bl false)) Γ
  | _ => .bad
def orO (f g : Ev → Rs AV) : Ev → Rs AV := fun Γ => (f Γ).bind fun av Γ => match av with
  | .dat (.bl true) => .ok (.dat (.bl true)) Γ
  | .dat (.bl false) => g Γ
  | _ => .bad
def notO (f : Ev → Rs AV) : Ev → Rs AV := fun Γ => (f Γ).bind fun av Γ => match av with
  | .dat (.bl k) => .ok (.dat (.bl (!k))) Γ
  | _ => .bad
def ifO (t : Ev → Rs Bool) (f g : Ev → Rs AV) : Ev → Rs AV := fun Γ => (t Γ).bind fun k Γ => if k = true then f Γ else g Γ
theorem do_if {t : Ev → Rs Bool} {f g : Ev → Rs AV} (h : DT X c d t) (h1 : DO X c a f) (h2 : DO X c b g) : DO X c (.IfExp d a b pos) (ifO t f g) := PE.of (pe_ifExp h h1 h2) fun σ H Q ⟨F, Γ, r, q⟩ => ⟨F, Γ, r, (Po.bind (R := vrT) q).imp fun v H' ⟨F', Γ', k, r1, e1, a1, q1⟩ => by
  have a2 : v = k := a1
  subst a2
  cases v with
  | true => rw [if_pos rfl] at q1 ⊢; exact ⟨F', Γ', r1, Po.shift sh_O e1 q1⟩
  | false => rw [if_neg (by decide)] at q1 ⊢; exact ⟨F', Γ', r1, Po.shift sh_O e1 q1⟩⟩
def g2 (g : D → D → Option AV) (o1 o2 : OV) (Γ : Ev) : Option AV := match o1.get Γ, o2.get Γ with
  | some x, some y => g x y
  | _, _ => none
def chainO (g g' : D → D → Option AV) (fa fb fc : Ev → Rs OV) : Ev → Rs AV := fun Γ => (fa Γ).bind fun o1 Γ => (fb Γ).bind fun o2 Γ => match g2 g o1 o2 Γ with
  | some (.dat (.bl true)) => (fc Γ).bind fun o3 Γ => op2R g' o2 o3 Γ
  | some (.dat (.bl false)) => .ok (.dat (.bl false)) Γ
  | _ => .bad
theorem rd_chain {r r' : R2} {g g' : D → D → Option AV} (hg : O2 c.M r g) (hg' : O2 c.M r' g') {fa fb fc : Ev → Rs OV} {σ : L2.St} {H : Hp} {Q : VK} (h : tR c (vrO c.M) (chainO g g' fa fb fc) σ H Q) : tChain r r' (tR c (vrB c.M) fa) (tR c (vrB c.M) fb) (tR c (vrB c.M) fc) σ H Q := by
  obtain ⟨F, Γ, rel, q⟩ := h
  refine ⟨F, Γ, rel, ?_⟩
  refine (Po.bind (R := vrB c.M) q).imp fun x H1 ⟨F1, Γ1, o1, r1, e1, a1, q1⟩ => ⟨F1, Γ1, r1, ?_⟩
  refine (Po.bind (R := vrB c.M) (Po.shift sh_O e1 q1)).imp fun y H2 ⟨F2, Γ2, o2, r2, e2, a2, q2⟩ => ?_
  have go : ∀ k : Bool, g2 g o1 o2 Γ2 = some (.dat (.bl k)) → (∀ F' H', Rel c.M c.σ0 F' H' σ Γ2 → Ext (own σ Γ2) F2 H2 (own σ Γ2) F' H' → if k = true then tR c (vrB c.M) fc σ H' (fun w H4 => r' y w H4 Q) else Q (.bl false) H') →
      r x y H2 fun z H3 => ∃ k, z = .bl k ∧ (if k = true then tR c (vrB c.M) fc σ H3 (fun w' H4 => r' y w' H4 Q) else Q (.bl false) H3) := fun k hk hq => by
    unfold g2 at hk
    split at hk
    · rename_i x' y' h1 h2
      refine hg F2 H2 x y x' y' _ _ r2.sub (get_rep r2 h1 (a1.ext e2.ff)) (get_rep r2 h2 a2) hk fun F' H' v x1 x2 x3 => ?_
      have e4 : Ext (own σ Γ2) F2 H2 (own σ Γ2) F' H' := x1.sub fun _ z => z.elim
      exact ⟨k, rep_bl.mp (show Rep c.M F' (.bl k) v from x3), hq F' H' (r2.op x1 x2) e4⟩
    · cases hk
  have q3 := Po.shift sh_O e2 q2
  split at q3
  · rename_i hk
    refine go true hk fun F' H' r3 e3 => ?_
    rw [if_pos rfl]
    refine ⟨F', Γ2, r3, ?_⟩
    refine (Po.bind (R := vrB c.M) (Po.shift sh_O e3 q3)).imp fun w H4 ⟨F4, Γ4, o3, r4, e4, a4, q4⟩ => ?_
    exact po_op2 hg' r4 e4 ((a2.ext e3.ff).ext e4.ff) a4 q4
  · rename_i hk
    refine go false hk fun F' H' r3 e3 => ?_
    rw [if_neg (by decide)]
    exact q3 F' H' _ r3 e3 (show Rep _ _ _ _ from rep_bl.mpr rfl)
  · exact q3.elim
theorem dt_chain {op op' : CmpOp} {r r' : R2} {g g' : D → D → Option AV} {fa fb fc : Ev → Rs OV} (ho : OpR X (compareOp op) r) (hg : O2 c.M r g) (ho' : OpR X (compareOp op') r') (hg' : O2 c.M r' g') (ha : DB X c a fa) (hb : DB X c b fb) (hd : DB X c d fc)
    (hm : lastMarks [op, op'] [b, d] = false := by with_unfolding_all rfl) : DT X c (.Compare a [op, op'] [b, d] pos) (fun Γ => tst (chainO g g' fa fb fc Γ)) := dt_of (pt_chain ho ho' ha hb hd hm) fun σ H Q q => rd_chain hg hg' q
def noPart : Ev → Rs (Option Int) := fun Γ => .ok none Γ
def partO (f : Ev → Rs AV) : Ev → Rs (Option Int) := fun Γ => (f Γ).bind fun av Γ => match av with
  | .dat (.int i) => .ok (some i) Γ
  | _ => .bad
def vrP : VRel (Option Int) (Option Int) := fun _ _ _ _ _ _ _ b c => b = c
abbrev DPt (X : Cx) (c : Cf) (e : Option Expr) (f : Ev → Rs (Option Int)) : Prop := PO X e (tR c vrP f)
theorem PO.of {X : Cx} {e : Option Expr} {t t' : TO} (h : PO X e t) (i : ∀ σ H Q, t' σ H Q → t σ H Q) : PO X e t' := ⟨fun pins s σ H Q I q => h.run pins s σ H Q I (i σ H Q q)⟩
theorem dp_none : DPt X c none noPart := PO.of po_none fun σ H Q ⟨F, Γ, r, q⟩ => q F H none r Ext.refl rfl
theorem dp_some {f : Ev → Rs AV} (h : DO X c e f) : DPt X c (some e) (partO f) := PO.of (po_some h) fun σ H Q ⟨F, Γ, r, q⟩ => ⟨F, Γ, r, (Po.bind (R := vrO c.M) q).imp fun v H' ⟨F', Γ', av, r1, e1, a1, q1⟩ => by
  split at q1
  · rename_i i
    exact ⟨i, rep_int.mp (show Rep c.M F' (.int i) v from a1), q1 F' H' _ r1 e1 rfl⟩
  · exact q1.elim⟩
def cutL {α : Type} (xs : List α) (lo hi : Option Int) : List α := (xs.drop (HT.sIx xs.length 0 lo)).take (HT.sIx xs.length xs.length hi - HT.sIx xs.length 0 lo)
theorem Reps.cut {M : Md} {F : Hp} {l : List D} {xs : List V} (h : Reps M F l xs) (lo hi : Option Int) : Reps M F (cutL l lo hi) (cutV xs lo hi) := by
  unfold cutL cutV
  rw [h.length]
  exact (h.drop _).take _
def gSl (lo hi : Option Int) : D → Option AV
  | .str z => if z.length ≤ sizeLine then some (.dat (.str (cutS z lo hi))) else none
  | .lst l => some (.own (.lst (cutL l lo hi)))
  | .fz l => some (.own (.lst (cutL l lo hi)))
  | .tup l => some (.dat (.tup (cutL l lo hi)))
  | _ => none
def rSlX2 (K : PySem.W.Frag) : V → Option Int → Option Int → Hp → VK → Prop := fun x lo hi H Q => (rSlS x lo hi H Q ∨ rSlL K x lo hi H Q) ∨ rSlA K x lo hi H Q
theorem sl_all2 : SlR X (rSlX2 X.K) := (sl_str.or sl_list).or sl_tupA
theorem strOk_cut {z : Str} {lo hi : Option Int} (h : PyData.strOk z = true) : PyData.strOk (cutS z lo hi) = true := strOk_sub h fun n hn => by
  unfold cutS at hn
  exact List.mem_of_mem_drop (List.mem_of_mem_take hn)
theorem sl_sem {M : Md} {F H : Hp} {x : V} {d : D} {lo hi : Option Int} {av : AV} {Q : VK} (sub : Ex F H) (r1 : Rep1 M F H d x) (e : gSl lo hi d = some av) (h : Nv.Fin M F H av Q) : rSlX2 M.K x lo hi H Q := by
  unfold gSl at e
  split at e
  · rename_i z
    split at e
    · rename_i hz
      cases e
      obtain ⟨rfl, ok⟩ := r1_str r1
      exact .inl (.inl ⟨z, rfl, hz, fin_dat sub h (rep_str.mpr ⟨rfl, strOk_cut ok⟩)⟩)
    · cases e
  · rename_i l
    cases e
    obtain ⟨a, xs, rfl, h1, h2⟩ := r1_lst r1
    exact .inl (.inr ⟨a, xs, rfl, SqL.of h1, fun p n => fin_lst sub h n (h2.cut lo hi)⟩)
  · rename_i l
    cases e
    obtain ⟨a, xs, rfl, h1, h2⟩ := r1_fz r1
    exact .inl (.inr ⟨a, xs, rfl, Evl.ex_l sub h1, fun p n => fin_lst sub h n (h2.cut lo hi)⟩)
  · rename_i l
    cases e
    obtain ⟨a, xs, x0, hT, h2⟩ := rep_tup.mp (show Rep M F (.tup l) x from r1)
    subst x0
    have h1 := hT.sq h2
    refine .inr ⟨a, xs, rfl, Evl.ex_t sub h1, fun hw => fin_dat sub h ?_, fun _ p n => fin_tup sub h n (h2.cut lo hi)⟩
    have e : cutL l lo hi = l := by
      have hw2 := hw
      rw [h2.length] at hw2
      unfold cutL
      rw [hw2.1, hw2.2, List.drop_zero, Nat.sub_zero, List.take_length]
    rw [e]
    exact rep_tup.mpr ⟨a, xs, rfl, hT, h2⟩
  · cases e
def sliceO (f : Ev → Rs OV) (fl fh : Ev → Rs (Option Int)) : Ev → Rs AV := fun Γ => (f Γ).bind fun o Γ => (fl Γ).bind fun lo Γ => (fh Γ).bind fun hi Γ => op1R (gSl lo hi) o Γ
theorem do_slice {lo hi : Option Expr} {p2 : Pos} {f : Ev → Rs OV} {fl fh : Ev → Rs (Option Int)} (hM : c.M = ⟨X.K, X.mg⟩) (h : DB X c e f) (hl : DPt X c lo fl) (hh : DPt X c hi fh) : DO X c (.Subscript e (.Slice lo hi none p2) pos) (sliceO f fl fh) := by
  refine PE.of (pe_slice sl_all2 h hl hh) fun σ H Q ⟨F, Γ, r, q⟩ => ⟨F, Γ, r, ?_⟩
  refine (Po.bind (R := vrB c.M) q).imp fun x H1 ⟨F1, Γ1, o, r1, e1, a1, q1⟩ => ⟨F1, Γ1, r1, ?_⟩
  refine (Po.bind (R := vrP) (Po.shift sh_O e1 q1)).imp fun lo' H2 ⟨F2, Γ2, lo2, r2, e2, a2, q2⟩ => ⟨F2, Γ2, r2, ?_⟩
  have a2 : lo' = lo2 := a2
  subst a2
  refine (Po.bind (R := vrP) (Po.shift sh_O e2 q2)).imp fun hi' H3 ⟨F3, Γ3, hi2, r3, e3, a3, q3⟩ => ?_
  have a3 : hi' = hi2 := a3
  subst a3
  have a4 := (a1.ext e2.ff).ext e3.ff
  have q4 : Po c (vrO c.M) σ F2 H2 Γ2 (op1R (gSl lo' hi') o Γ3) Q := q3
  unfold op1R at q4
  split at q4
  · rename_i d hd
    split at q4
    · rename_i av he
      have q5 := sl_sem (M := c.M) (H := H3) (Q := Q) r3.sub (get_rep r3 hd a4) he fun F' H' v x1 x2 x3 => by
        have e4 : Ext (own σ Γ3) F3 H3 (own σ Γ3) F' H' := x1.sub fun _ z => z.elim
        exact q4 F' H' v (r3.op x1 x2) (e3.trans e4) (sh_O _ _ _ _ _ _ _ _ _ _ _ _ e3 (x3.avr r3))
      rw [hM] at q5
      exact q5
    · exact q4.elim
  · exact q4.elim
/-- xs[::-1] of a list or a text -/
def revS (z : Str) : Str := ⟨z.cps.toList.reverse.toArray⟩
def gRev : D → Option AV
  | .lst l => some (.own (.lst l.reverse))
  | .fz l => some (.own (.lst l.reverse))
  | .str z => if z.length ≤ sizeLine then some (.dat (.str (revS z))) else none
  | _ => none
def strsO : List D → Option (List Str)
  | [] => some []
  | .str z :: r => (strsO r).map (z :: ·)
  | _ :: _ => none
theorem strsO_eq : ∀ {l : List D} {bs : List Str}, strsO l = some bs → l = bs.map .str
  | [], bs, h => by cases h; rfl
  | d :: l, bs, h => by
    unfold strsO at h
    split at h
    · rename_i e; cases e
    · rename_i z r e
      cases e
      obtain ⟨bs', e1, rfl⟩ := Option.map_eq_some_iff.mp h
      rw [strsO_eq e1]; rfl
    · cases h
def joinLen (a : Str) (ys : List Str) : Bool := decide ((ys.map (·.length)).sum + ys.length * a.length ≤ 16777216)
def gJoin (a b : D) : Option AV :=
  match a with
  | .str z => (match (match b with | .lst l => strsO l | .tup l => strsO l | .fz l => strsO l | _ => none) with
    | some ys => if joinLen z ys = true then some (.dat (.str (Txt.join z ys))) else none
    | none => none)
  | _ => none
def joinO (f g : Ev → Rs OV) : Ev → Rs AV := fun Γ => (f Γ).bind fun o1 Γ => match o1.get Γ with
  | some (.str _) => (g Γ).bind fun o2 Γ => op2R gJoin o1 o2 Γ
  | _ => .bad
end
end Nv
-- N12
namespace Nv
open PySem PySem.Spec PyProof.Rows L2
open Evl (Ex)
def chD (z : Str) : List D := z.cps.toList.map fun n => .str ⟨#[n]⟩
def itemsD : D → Option (List D)
  | .lst l => some l
  | .tup l => some l
  | .fz l => some l
  | .str z => some (chD z)
  | _ => none
/-- the items of an operand; the slots that are hidden while it is walked -/
def itemsOV (Γ : Ev) : OV → Option (List D × List Nat)
  | .dat d => (itemsD d).map fun l => (l, [])
  | .slot i => match Γ[i]? with
    | some (.dat d) => (itemsD d).map fun l => (l, [])
    | some (.own _ (.lst l)) => some (l, [i])
    | _ => none
/-- .. and dicts by their keys -/
def itemsD2 : D → Option (List D)
  | .dct l => some (l.map (·.1))
  | d => itemsD d
def itemsOV2 (Γ : Ev) : OV → Option (List D × List Nat)
  | .dat d => (itemsD2 d).map fun l => (l, [])
  | .slot i => match Γ[i]? with
    | some (.dat d) => (itemsD2 d).map fun l => (l, [])
    | some (.own _ (.lst l)) => some (l, [i])
    | _ => none
/-- the objects of the hidden slots stand -/
def pinsOf (σ : L2.St) (Γ : Ev) (H : Hp) (hs : List Nat) : Addr → HO → Prop := fun a u => ∃ i ∈ hs, ∃ t o, Γ[i]? = some (Slot.own t o) ∧ σ[i]? = some (some (.ref a)) ∧ H a = some u
def PoI2 (c : Cf) (σ : L2.St) (F H : Hp) (Γ : Ev) (r : Rs (List D × List Nat)) (R : It → Hp → Prop) : Prop :=
  match r with
  | .ok p Γ' => ∀ F' H' J, Rel c.M c.σ0 F' H' σ Γ' → Ext (own σ Γ) F H (own σ Γ') F' H' → Wk c.M F' (pinsOf σ Γ' H' p.2) p.1 J → R J H'
  | .ex n l Γ' => ∀ F' H' C dx, Rel c.M c.σ0 F' H' σ Γ' → Ext (own σ Γ) F H (own σ Γ') F' H' → c.M.mg n = some (.ref C) → XR c.M F' l dx → c.W (.ref C) dx σ H'
  | .bad => False
def tI2 (c : Cf) (f : Ev → Rs (List D × List Nat)) : TI := fun σ H R => ∃ F Γ, Rel c.M c.σ0 F H σ Γ ∧ PoI2 c σ F H Γ (f Γ) R
abbrev DI2 (X : Cx) (c : Cf) (tg iter : Expr) (f : Ev → Rs (List D × List Nat)) : Prop := PI X tg iter (tI2 c f)
/-- for a for: nothing hidden -/
def bare (f : Ev → Rs (List D × List Nat)) : Ev → Rs (List D) := fun Γ => (f Γ).bind fun p Γ => match p.2 with
  | [] => .ok p.1 Γ
  | _ => .bad
theorem pinsOf_nil {σ : L2.St} {Γ : Ev} {H : Hp} : pinsOf σ Γ H [] = noP := by
  funext a u
  refine propext ⟨fun q => ?_, fun q => False.elim q⟩
  obtain ⟨i, h, _⟩ := q
  cases h
theorem di_of {X : Cx} {c : Cf} {tg iter : Expr} {f : Ev → Rs (List D × List Nat)} (h : DI2 X c tg iter f) : DI X c tg iter (bare f) := by
  refine PI.of h fun σ H R ⟨F, Γ, r, q⟩ => ⟨F, Γ, r, ?_⟩
  unfold bare at q
  cases hf : f Γ with
  | bad => rw [hf] at q; exact q
  | ex n l Γ' => rw [hf] at q; exact q
  | ok p Γ' =>
    rw [hf] at q
    obtain ⟨l, hs⟩ := p
    cases hs with
    | cons a b => exact q.elim
    | nil =>
      intro F' H' J r1 e1 w
      rw [pinsOf_nil] at w
      exact q F' H' J r1 e1 w
theorem chD_reps {M : Md} {F : Hp} {z : Str} (h : PyData.strOk z = true) : Reps M F (chD z) (chV z) := by
  unfold chD chV
  have go : ∀ l : List Nat, (∀ n ∈ l, n ∈ z.cps.toList) → Reps M F (l.map fun n => D.str ⟨#[n]⟩) (l.map fun c => V.str ⟨#[c]⟩) := by
    intro l
    induction l with
    | nil => intro _; exact Reps.nil
    | cons a l ih =>
      intro hm
      exact Reps.cons (rep_str.mpr ⟨rfl, strOk_mem h (hm a List.mem_cons_self)⟩) (ih fun n hn => hm n (List.mem_cons_of_mem _ hn))
  exact go _ fun _ h => h
/-- what an operand is walked as -/
theorem items_seq {c : Cf} {σ : L2.St} {F H : Hp} {Γ : Ev} {o : OV} {v : V} {p : List D × List Nat} (r : Rel c.M c.σ0 F H σ Γ) (hv : ovR c.M σ F v o) (e : itemsOV Γ o = some p) :
    ∃ xs G, SeqG c.M.K v xs G ∧ G H ∧ Reps c.M F p.1 xs ∧ ∀ F' H', Ex F F' → Ex F' H' → (∀ a u, pinsOf σ Γ H p.2 a u → H' a = some u) → G H' := by
  have dat : ∀ {d : D} {l : List D}, Rep c.M F d v → itemsD d = some l → ∃ xs G, SeqG c.M.K v xs G ∧ G H ∧ Reps c.M F l xs ∧ ∀ F' H', Ex F F' → Ex F' H' → (∀ a u, pinsOf σ Γ H [] a u → H' a = some u) → G H' := fun {d l} hr e => by
    unfold itemsD at e
    split at e
    · rename_i l'
      cases e
      obtain ⟨a, xs, rfl, h1, h2⟩ := rep_lst.mp hr
      exact ⟨xs, _, .l a xs, SqL.of (r.sub _ _ h1), h2, fun F' H' e1 e2 _ => SqL.of (e2 _ _ (e1 _ _ h1))⟩
    · rename_i l'
      cases e
      obtain ⟨a, xs, rfl, h1, h2⟩ := rep_tup.mp hr
      exact ⟨xs, _, .t a xs, Evl.ex_t r.sub (h1.sq h2), h2, fun F' H' e1 e2 _ => Evl.ex_t e2 (Evl.ex_t e1 (h1.sq h2))⟩
    · rename_i l'
      cases e
      obtain ⟨a, xs, rfl, h1, h2⟩ := rep_fz.mp hr
      exact ⟨xs, _, .l a xs, Evl.ex_l r.sub h1, h2, fun F' H' e1 e2 _ => Evl.ex_l e2 (Evl.ex_l e1 h1)⟩
    · rename_i z
      cases e
      obtain ⟨rfl, ok⟩ := rep_str.mp hr
      exact ⟨chV z, _, .s z, trivial, chD_reps ok, fun _ _ _ _ _ => trivial⟩
    · cases e
  cases o with
  | dat d =>
    obtain ⟨l, e1, rfl⟩ := Option.map_eq_some_iff.mp e
    exact dat hv e1
  | slot i =>
    unfold itemsOV at e
    dsimp only at e
    split at e
    · rename_i d hd
      obtain ⟨l, e1, rfl⟩ := Option.map_eq_some_iff.mp e
      obtain ⟨w, x1, x2⟩ := r.dat hd
      have q : σ[i]? = some (some v) := hv
      rw [x1] at q
      cases q
      exact dat x2 e1
    · rename_i t l ho
      cases e
      obtain ⟨a, x1, x2, ⟨xs, x3, x4⟩, _⟩ := r.own ho
      have q : σ[i]? = some (some v) := hv
      rw [x1] at q
      cases q
      exact ⟨xs, _, .l a xs, SqL.of x3, x4, fun F' H' e1 e2 hp => SqL.of (hp a _ ⟨i, List.mem_cons_self, t, _, ho, x1, x3⟩)⟩
    · cases e
theorem keys_reps {M : Md} {F : Hp} : ∀ {l : List (D × D)} {xs : List (Key × V)}, RepK M F l xs → Reps M F (l.map (·.1)) (xs.map fun kv => kV kv.1)
  | [], _, h => by unfold RepK at h; subst h; exact Reps.nil
  | (k, d) :: l, _, h => by
    unfold RepK at h
    obtain ⟨q, v, r, rfl, ⟨rfl, hk⟩, _, h4⟩ := h
    rw [List.map_cons, List.map_cons]
    refine Reps.cons ?_ (keys_reps h4)
    cases q with
    | inl i => exact rep_int.mpr rfl
    | inr z => exact rep_str.mpr ⟨rfl, hk⟩
theorem items_seq2 {c : Cf} {σ : L2.St} {F H : Hp} {Γ : Ev} {o : OV} {v : V} {p : List D × List Nat} (r : Rel c.M c.σ0 F H σ Γ) (hv : ovR c.M σ F v o) (e : itemsOV2 Γ o = some p) :
    ∃ xs G, SeqG2 c.M.K v xs G ∧ G H ∧ Reps c.M F p.1 xs ∧ ∀ F' H', Ex F F' → Ex F' H' → (∀ a u, pinsOf σ Γ H p.2 a u → H' a = some u) → G H' := by
  have old : itemsOV Γ o = some p → ∃ xs G, SeqG2 c.M.K v xs G ∧ G H ∧ Reps c.M F p.1 xs ∧ ∀ F' H', Ex F F' → Ex F' H' → (∀ a u, pinsOf σ Γ H p.2 a u → H' a = some u) → G H' := fun e => by
    obtain ⟨xs, G, h1, h2⟩ := items_seq r hv e
    exact ⟨xs, G, .q h1, h2⟩
  have dk : ∀ {l : List (D × D)}, Rep c.M F (.dct l) v → ∃ xs G, SeqG2 c.M.K v xs G ∧ G H ∧ Reps c.M F (l.map (·.1)) xs ∧ ∀ F' H', Ex F F' → Ex F' H' → (∀ a u, pinsOf σ Γ H [] a u → H' a = some u) → G H' := fun {l} hr => by
    obtain ⟨a, kvs, rfl, ⟨od, h1⟩, h2⟩ := rep_dct.mp hr
    exact ⟨_, _, .d a od kvs, r.sub _ _ h1, keys_reps h2, fun F' H' e1 e2 _ => e2 _ _ (e1 _ _ h1)⟩
  cases o with
  | dat d =>
    cases d with
    | dct l =>
      cases e
      exact dk hv
    | _ => exact old e
  | slot i =>
    unfold itemsOV2 at e
    dsimp only at e
    split at e
    · rename_i d hd
      cases d with
      | dct l =>
        cases e
        obtain ⟨w, x1, x2⟩ := r.dat hd
        have q : σ[i]? = some (some v) := hv
        rw [x1] at q
        cases q
        exact dk x2
      | _ =>
        refine old ?_
        unfold itemsOV
        dsimp only
        rw [hd]
        exact e
    · rename_i t l ho
      refine old ?_
      unfold itemsOV
      dsimp only
      rw [ho]
      exact e
    · cases e
section
variable {X : Cx} {c : Cf} {tg e : Expr} {pos p : Pos}
def seqI (f : Ev → Rs OV) : Ev → Rs (List D × List Nat) := fun Γ => (f Γ).bind fun o Γ => match itemsOV2 Γ o with
  | some p => .ok p Γ
  | none => .bad
theorem PoI2.of {σ : L2.St} {F H : Hp} {Γ : Ev} {α β : Type} {R : VRel α β} {r : Rs α} {k : α → Ev → Rs (List D × List Nat)} {Q : It → Hp → Prop} (h : PoI2 c σ F H Γ (r.bind k) Q) :
    Po c R σ F H Γ r fun v H' => ∃ F' Γ' a, Rel c.M c.σ0 F' H' σ Γ' ∧ Ext (own σ Γ) F H (own σ Γ') F' H' ∧ R σ F H Γ F' H' Γ' v a ∧ PoI2 c σ F H Γ (k a Γ') Q := by
  cases r with
  | ok a Γ' => exact fun F' H' v r1 e1 v1 => ⟨F', Γ', a, r1, e1, v1, h⟩
  | ex n l Γ' => exact fun F' H' C dx r1 e1 m x => h F' H' C dx r1 e1 m x
  | bad => exact h
theorem wk_at {M : Md} {F : Hp} {P : Addr → HO → Prop} {l : List D} {xs : List V} {G : Hp → Prop} {J : It} (w : Walk J xs.length G (YAt xs)) (h : Reps M F l xs) (g : ∀ F' H', Ex F F' → Ex F' H' → (∀ a u, P a u → H' a = some u) → G H') : Wk M F P l J := by
  refine ⟨G, YAt xs, (by rw [← h.length]; exact w), g, fun i F' H' v H'' hi e1 e2 ⟨y1, y2⟩ => ?_⟩
  subst y1
  obtain ⟨d, hd, hr⟩ := h.getv y2
  exact ⟨F', d, hd, Ext.refl, e2, hr.mono e1⟩
theorem di_seq {f : Ev → Rs OV} (hM : c.M = ⟨X.K, X.mg⟩) (h : DB X c e f) : DI2 X c tg e (seqI f) := by
  refine PI.of (pi_seq2 h) fun σ H R ⟨F, Γ, r, q⟩ => ⟨F, Γ, r, ?_⟩
  refine Po.imp (PoI2.of (R := vrB c.M) (r := f Γ) q) fun v H1 ⟨F1, Γ1, o, r1, e1, a1, q1⟩ => ?_
  split at q1
  · rename_i p hp
    obtain ⟨xs, G, s1, s2, s3, s4⟩ := items_seq2 r1 a1 hp
    rw [hM] at s1
    exact ⟨xs, G, s1, s2, fun J w => q1 F1 H1 J r1 e1 (wk_at w s3 s4)⟩
  · exact q1.elim
def enumD : Nat → List D → List D
  | _, [] => []
  | k, d :: l => .tup [.int (k : Nat), d] :: enumD (k + 1) l
theorem enumD_len : ∀ {k : Nat} {l : List D}, (enumD k l).length = l.length
  | _, [] => rfl
  | k, d :: l => by unfold enumD; rw [List.length_cons, enumD_len, List.length_cons]
theorem enumD_get : ∀ {k : Nat} {l : List D} {i : Nat} {d : D}, l[i]? = some d → (enumD k l)[i]? = some (.tup [.int ((k + i : Nat)), d])
  | _, [], _, _, h => by cases h
  | k, d :: l, 0, _, h => by cases h; rfl
  | k, d :: l, i + 1, _, h => by
    unfold enumD
    rw [List.getElem?_cons_succ, enumD_get (by simpa using h), show k + 1 + i = k + (i + 1) by omega]
theorem wk_en {M : Md} {F : Hp} {P : Addr → HO → Prop} {l : List D} {xs : List V} {G : Hp → Prop} {J : It} (w : Walk J xs.length G (YEnum 0 xs)) (h : Reps M F l xs) (g : ∀ F' H', Ex F F' → Ex F' H' → (∀ a u, P a u → H' a = some u) → G H') : Wk M F P (enumD 0 l) J := by
  refine ⟨G, YEnum 0 xs, (by rw [enumD_len, ← h.length]; exact w), g, fun i F' H' v H'' hi e1 e2 ⟨T, x, y1, y2, y3, y4⟩ => ?_⟩
  subst y1
  subst y3
  obtain ⟨d, hd, hr⟩ := h.getv y4
  have nf : F' T = none := by
    cases q : F' T with
    | none => rfl
    | some u => rw [e2 _ _ q] at y2; cases y2
  refine ⟨upd F' T (.tup [.int (0 + (i : Nat)), x]), _, enumD_get hd, Ext.newF y2 nf, exNF e2, rep_tup.mpr ⟨T, _, rfl, .inl upd_same, Reps.cons (rep_int.mpr ?_) (Reps.cons ((hr.mono e1).mono (Evl.Ex.new nf)) Reps.nil)⟩⟩
  simp
def enI (f : Ev → Rs (List OV)) : Ev → Rs (List D × List Nat) := fun Γ => (f Γ).bind fun os Γ => match os with
  | [o] => (match itemsOV Γ o with
    | some p => .ok (enumD 0 p.1, p.2) Γ
    | none => .bad)
  | _ => .bad
theorem di_enum {tpos : Pos} {elts : List Expr} {kk : Nat} {f : Ev → Rs (List OV)} (hM : c.M = ⟨X.K, X.mg⟩) (hm : X.mg "enumerate" = none) (h : DA X c [e] f) (hg : Gl X "enumerate" := by rfl) (hs : starEach [e] X.env = [(false, eval e X.env)] := by rfl) :
    DI2 X c (.Tuple elts kk tpos) (.Call (.Name "enumerate" p) [e] [] pos) (enI f) := by
  refine PI.of (pi_enA hg hm h hs) fun σ H R ⟨F, Γ, r, q⟩ => ⟨F, Γ, r, ?_⟩
  refine Po.imp (PoI2.of (R := vrA c.M) (r := f Γ) q) fun vs H1 ⟨F1, Γ1, os, r1, e1, a1, q1⟩ => ?_
  split at q1
  · rename_i o
    split at q1
    · rename_i pp hp
      obtain ⟨v, rfl⟩ : ∃ v, vs = [v] := by
        have hl := (ovsR_get a1).1
        match vs, hl with
        | [v], _ => exact ⟨v, rfl⟩
      obtain ⟨xs, G, s1, s2, s3, s4⟩ := items_seq r1 a1.1 hp
      rw [hM] at s1
      exact ⟨v, xs, G, rfl, s1, s2, fun J w => q1 F1 H1 J r1 e1 (wk_en w s3 s4)⟩
    · exact q1.elim
  · exact q1.elim
def rangeD (lo : Int) (n : Nat) : List D := (List.range n).map fun (i : Nat) => .int (lo + (i : Nat))
def rngOk (i : Int) : Bool := decide (-(2 ^ 62) ≤ i ∧ i < 2 ^ 62)
def rngI1 (f : Ev → Rs (List OV)) : Ev → Rs (List D × List Nat) := fun Γ => (f Γ).bind fun os Γ => match gets Γ os with
  | some [.int j] => if rngOk j = true then .ok (rangeD 0 j.toNat, []) Γ else .bad
  | _ => .bad
def rngI2 (f : Ev → Rs (List OV)) : Ev → Rs (List D × List Nat) := fun Γ => (f Γ).bind fun os Γ => match gets Γ os with
  | some [.int i, .int j] => if rngOk i = true ∧ rngOk j = true then .ok (rangeD i (j - i).toNat, []) Γ else .bad
  | _ => .bad
theorem wk_range {M : Md} {F : Hp} {P : Addr → HO → Prop} {lo : Int} {n : Nat} : Wk M F P (rangeD lo n) (Itr lo n) := by
  refine ⟨fun _ => True, YFn fun i => .int (lo + i), (by unfold rangeD; rw [List.length_map, List.length_range]; exact walk_range), fun _ _ _ _ _ => trivial, fun i F' H' v H'' hi e1 e2 ⟨y1, y2⟩ => ?_⟩
  subst y1
  subst y2
  unfold rangeD at hi ⊢
  rw [List.length_map, List.length_range] at hi
  exact ⟨F', .int (lo + (i : Nat)), by rw [List.getElem?_map, List.getElem?_range hi]; rfl, Ext.refl, e2, rep_int.mpr rfl⟩
theorem di_range1 {f : Ev → Rs (List OV)} (hm : X.mg "range" = none) (h : DA X c [e] f) (hg : Gl X "range" := by rfl) (hs : starEach [e] X.env = [(false, eval e X.env)] := by rfl) : DI2 X c tg (.Call (.Name "range" p) [e] [] pos) (rngI1 f) := by
  refine PI.of (pi_range1 hg hm h hs) fun σ H R ⟨F, Γ, r, q⟩ => ⟨F, Γ, r, ?_⟩
  refine Po.imp (PoI2.of (R := vrA c.M) (r := f Γ) q) fun vs H1 ⟨F1, Γ1, os, r1, e1, a1, q1⟩ => ?_
  split at q1
  · rename_i j hj
    split at q1
    · rename_i ok
      have hr := gets_rep r1 hj a1
      obtain ⟨v, rfl, hv⟩ := reps1_1 hr
      cases r1_int hv
      obtain ⟨k1, k2⟩ := of_decide_eq_true (p := -(2 ^ 62) ≤ j ∧ j < 2 ^ 62) ok
      exact ⟨j, rfl, k1, k2, q1 F1 H1 _ r1 e1 wk_range⟩
    · exact q1.elim
  · exact q1.elim
end
end Nv
-- N13
namespace Nv
open PySem PySem.Spec PyProof.Rows L2
open Evl (Ex)
def wipeG (Γ : Ev) : List Nat → Ev
  | [] => Γ
  | v :: vs => (wipeG Γ vs).set v .un
def unw (Γ Γe : Ev) : List Nat → Ev
  | [] => Γe
  | v :: vs => match Γ[v]? with
    | some g => (unw Γ Γe vs).set v g
    | none => unw Γ Γe vs
def anchor : Ev → Ev → Ev
  | .own _ _ :: G, s :: G' => s :: anchor G G'
  | g :: G, _ :: G' => g :: anchor G G'
  | _, _ => []
theorem wipeG_len {Γ : Ev} : ∀ {vs : List Nat}, (wipeG Γ vs).length = Γ.length
  | [] => rfl
  | v :: vs => by unfold wipeG; rw [List.length_set, wipeG_len]
theorem wipeG_get {Γ : Ev} {i : Nat} {g : Slot} : ∀ {vs : List Nat}, (wipeG Γ vs)[i]? = some g → (i ∈ vs ∧ g = .un) ∨ (i ∉ vs ∧ Γ[i]? = some g)
  | [], h => .inr ⟨by simp, h⟩
  | v :: vs, h => by
    unfold wipeG at h
    by_cases z : v = i
    · subst z
      have hl := (List.getElem?_eq_some_iff.mp h).1
      rw [List.length_set] at hl
      rw [List.getElem?_set_self hl] at h
      cases h
      exact .inl ⟨List.mem_cons_self, rfl⟩
    · rw [List.getElem?_set_ne z] at h
      rcases wipeG_get h with ⟨h1, h2⟩ | ⟨h1, h2⟩
      · exact .inl ⟨List.mem_cons_of_mem _ h1, h2⟩
      · exact .inr ⟨fun q => by
          rcases List.mem_cons.mp q with q | q
          · exact z q.symm
          · exact h1 q, h2⟩
theorem unw_len {Γ Γe : Ev} : ∀ {vs : List Nat}, (unw Γ Γe vs).length = Γe.length
  | [] => rfl
  | v :: vs => by
    unfold unw
    split
    · rw [List.length_set, unw_len]
    · exact unw_len
theorem unw_get {Γ Γe : Ev} {i : Nat} {g : Slot} (hl : Γe.length = Γ.length) : ∀ {vs : List Nat}, (unw Γ Γe vs)[i]? = some g → (i ∈ vs ∧ Γ[i]? = some g) ∨ (i ∉ vs ∧ Γe[i]? = some g)
  | [], h => .inr ⟨by simp, h⟩
  | v :: vs, h => by
    have hi : i < Γ.length := by
      have q := (List.getElem?_eq_some_iff.mp h).1
      rw [unw_len, hl] at q
      exact q
    unfold unw at h
    by_cases z : v = i
    · subst z
      rw [List.getElem?_eq_getElem hi] at h
      dsimp only at h
      rw [List.getElem?_set_self (by rw [unw_len, hl]; exact hi)] at h
      cases h
      exact .inl ⟨List.mem_cons_self, List.getElem?_eq_getElem hi⟩
    · have h2 : (unw Γ Γe vs)[i]? = some g := by
        split at h
        · rw [List.getElem?_set_ne z] at h; exact h
        · exact h
      rcases unw_get hl h2 with ⟨h1, h2⟩ | ⟨h1, h2⟩
      · exact .inl ⟨List.mem_cons_of_mem _ h1, h2⟩
      · exact .inr ⟨fun q => by
          rcases List.mem_cons.mp q with q | q
          · exact z q.symm
          · exact h1 q, h2⟩
theorem anchor_len : ∀ {G G' : Ev}, G.length = G'.length → (anchor G G').length = G.length
  | [], _, _ => rfl
  | _ :: _, [], h => by cases h
  | g :: G, s :: G', h => by
    have h2 : G.length = G'.length := by simpa using h
    cases g with
    | un => show (Slot.un :: anchor G G').length = _; rw [List.length_cons, anchor_len h2, List.length_cons]
    | dat d => show (Slot.dat d :: anchor G G').length = _; rw [List.length_cons, anchor_len h2, List.length_cons]
    | own t o => unfold anchor; rw [List.length_cons, anchor_len h2, List.length_cons]
theorem anchor_get : ∀ {G G' : Ev} {i : Nat} {g : Slot}, (anchor G G')[i]? = some g → (∃ t o, G[i]? = some (.own t o) ∧ G'[i]? = some g) ∨ ((∀ t o, g ≠ .own t o) ∧ G[i]? = some g)
  | [], _, i, g, h => by unfold anchor at h; cases h; all_goals exact fun _ _ _ _ _ z => nomatch z
  | _ :: _, [], i, g, h => by
    rename_i a b
    cases a <;> cases h
  | a :: G, s :: G', i, g, h => by
    cases a with
    | un =>
      have h' : (Slot.un :: anchor G G')[i]? = some g := h
      cases i with
      | zero => cases h'; exact .inr ⟨(fun _ _ z => nomatch z), rfl⟩
      | succ i => simpa using anchor_get (G := G) (G' := G') (i := i) (g := g) (by simpa using h')
    | dat d =>
      have h' : (Slot.dat d :: anchor G G')[i]? = some g := h
      cases i with
      | zero => cases h'; exact .inr ⟨(fun _ _ z => nomatch z), rfl⟩
      | succ i => simpa using anchor_get (G := G) (G' := G') (i := i) (g := g) (by simpa using h')
    | own t o =>
      have h' : (s :: anchor G G')[i]? = some g := h
      cases i with
      | zero => cases h'; exact .inl ⟨t, o, rfl, rfl⟩
      | succ i => simpa using anchor_get (G := G) (G' := G') (i := i) (g := g) (by simpa using h')
theorem wipe_idem {σ : L2.St} {vs : List Nat} : wipe (wipe σ vs) vs = wipe σ vs := by
  have key : ∀ (ws : List Nat), (∀ i ∈ ws, i ∈ vs) → wipe (wipe σ vs) ws = wipe σ vs := by
    intro ws
    induction ws with
    | nil => intro _; rfl
    | cons w ws ih =>
      intro h
      show (wipe (wipe σ vs) ws).set w none = wipe σ vs
      rw [ih fun i hi => h i (List.mem_cons_of_mem _ hi)]
      have hw := h w List.mem_cons_self
      -- the slot w is none already, or not there
      apply List.ext_getElem?
      intro j
      by_cases z : w = j
      · subst z
        by_cases hl : w < (wipe σ vs).length
        · rw [List.getElem?_set_self hl]
          cases e : (wipe σ vs)[w]? with
          | none => rw [List.getElem?_eq_getElem hl] at e; cases e
          | some o =>
            cases o with
            | none => rfl
            | some x => exact absurd hw (wipe_some e).2
        · rw [List.getElem?_eq_none (by rw [List.length_set]; omega), List.getElem?_eq_none (by omega)]
      · rw [List.getElem?_set_ne z]
  exact key vs fun _ h => h
theorem Ext.wk {A B B' : Addr → Prop} {F H F' H' : Hp} (e : Ext B F H B' F' H') (h : ∀ b, B b → A b) : Ext A F H B' F' H' :=
  ⟨e.ff, fun b o n => e.hh b o fun z => n (h b z), fun b o n => e.fn b o fun z => n (h b z), fun b z => (e.aa b z).imp (h b) id⟩
section
variable {M : Md} {σ0 σ σ2 : L2.St} {F H F1 H1 : Hp} {Γ Γ0 Γ1 Γ2 : Ev} {vs hs : List Nat}
/-- the block's names, and what is hidden, forgotten -/
theorem rel_wipe (r : Rel M σ0 F H σ Γ) (h : ∀ i ∈ vs, i ∈ hs) : Rel M σ0 F H (L2.wipe σ vs) (wipeG Γ hs) := by
  refine ⟨r.sub, by rw [wipe_length, wipeG_len, r.len], fun i s g h1 h2 => ?_, fun i j t o t' o' a h1 h2 h3 h4 => ?_⟩
  · rcases wipeG_get h2 with ⟨_, rfl⟩ | ⟨n, h2⟩
    · trivial
    · rw [wipe_out fun z => n (h i z)] at h1
      exact r.slot i s g h1 h2
  · rcases wipeG_get h1 with ⟨_, z⟩ | ⟨n, h1⟩
    · cases z
    · rcases wipeG_get h2 with ⟨_, z⟩ | ⟨n2, h2⟩
      · cases z
      · rw [wipe_out fun z => n (h _ z)] at h3
        rw [wipe_out fun z => n2 (h _ z)] at h4
        exact r.sep i j t o t' o' a h1 h2 h3 h4
theorem own_wipe (h : ∀ i ∈ vs, i ∈ hs) {b : Addr} (q : own (L2.wipe σ vs) (wipeG Γ hs) b) : ∃ i t o, i ∉ hs ∧ Γ[i]? = some (Slot.own t o) ∧ σ[i]? = some (some (V.ref b)) := by
  obtain ⟨i, t, o, h1, h2⟩ := q
  rcases wipeG_get h1 with ⟨_, z⟩ | ⟨n, h1⟩
  · cases z
  · rw [wipe_out fun z => n (h _ z)] at h2
    exact ⟨i, t, o, n, h1, h2⟩
/-- behind a turn -/
theorem rel_anchor (r0 : Rel M σ0 F1 H1 (L2.wipe σ vs) Γ0) (r : Rel M σ0 F H σ2 Γ2) (e : Ex F1 F) (hw : L2.wipe σ2 vs = L2.wipe σ vs) (hv : ∀ i t o, Γ0[i]? = some (Slot.own t o) → i ∉ vs) :
    Rel M σ0 F H (L2.wipe σ vs) (Nv.anchor Γ0 Γ2) ∧ (∀ b, own (L2.wipe σ vs) (Nv.anchor Γ0 Γ2) b → own (L2.wipe σ vs) Γ0 b ∧ own σ2 Γ2 b) := by
  have l0 := r0.len
  have l2 := r.len
  have lw : (L2.wipe σ vs).length = σ2.length := by rw [← hw, wipe_length]
  have same : ∀ {i : Nat}, i ∉ vs → (L2.wipe σ vs)[i]? = σ2[i]? := fun {i} n => by rw [← hw, wipe_out n]
  refine ⟨⟨r.sub, by rw [anchor_len (by rw [← l0, lw, l2]), l0], fun i s g h1 h2 => ?_, fun i j t o t' o' a h1 h2 h3 h4 => ?_⟩, fun b ⟨i, t, o, h1, h2⟩ => ?_⟩
  · rcases anchor_get h2 with ⟨t, o, g1, g2⟩ | ⟨n, g1⟩
    · rw [same (hv i t o g1)] at h1
      exact r.slot i s g h1 g2
    · have q := r0.slot i s g h1 g1
      cases g with
      | un => trivial
      | dat d => obtain ⟨v, q1, q2⟩ := q; exact ⟨v, q1, q2.mono e⟩
      | own t o => exact absurd rfl (n t o)
  · rcases anchor_get h1 with ⟨t1, o1, g1, g2⟩ | ⟨n, g1⟩
    · rcases anchor_get h2 with ⟨t2, o2, g3, g4⟩ | ⟨n, g3⟩
      · rw [same (hv i _ _ g1)] at h3
        rw [same (hv j _ _ g3)] at h4
        exact r.sep i j _ _ _ _ a g2 g4 h3 h4
      · exact absurd rfl (n _ _)
    · exact absurd rfl (n _ _)
  · rcases anchor_get h1 with ⟨t1, o1, g1, g2⟩ | ⟨n, g1⟩
    · refine ⟨⟨i, t1, o1, g1, h2⟩, i, t, o, g2, ?_⟩
      rw [same (hv i _ _ g1)] at h2
      exact h2
    · exact absurd rfl (n _ _)
/-- at the end of the block -/
theorem rel_unw (r1 : Rel M σ0 F1 H1 σ Γ1) (h : ∀ i ∈ vs, i ∈ hs) (r : Rel M σ0 F H (L2.wipe σ vs) Γ2) (e : Ext (own (L2.wipe σ vs) (wipeG Γ1 hs)) F1 H1 (own (L2.wipe σ vs) Γ2) F H) (hsub : ∀ b, own (L2.wipe σ vs) Γ2 b → own (L2.wipe σ vs) (wipeG Γ1 hs) b) :
    Rel M σ0 F H σ (Nv.unw Γ1 Γ2 hs) ∧ Ext (own σ Γ1) F1 H1 (own σ (Nv.unw Γ1 Γ2 hs)) F H ∧ ∀ b, own σ (Nv.unw Γ1 Γ2 hs) b → own σ Γ1 b := by
  have ll : Γ2.length = Γ1.length := by rw [← r.len, wipe_length, r1.len]
  -- what is hidden is not the block's own
  have apart : ∀ {i : Nat} {t : Option Nat} {o : O} {a : Addr}, i ∈ hs → Γ1[i]? = some (Slot.own t o) → σ[i]? = some (some (V.ref a)) → ¬ own (L2.wipe σ vs) (wipeG Γ1 hs) a := fun {i t o a} hi h1 h2 z => by
    obtain ⟨j, t', o', n, g1, g2⟩ := own_wipe h z
    have q := r1.sep i j _ _ _ _ a h1 g1 h2 g2
    subst q
    exact n hi
  have sub1 : ∀ b, own (L2.wipe σ vs) (wipeG Γ1 hs) b → own σ Γ1 b := fun b z => by
    obtain ⟨j, t', o', n, g1, g2⟩ := own_wipe h z
    exact ⟨j, t', o', g1, g2⟩
  have ownsub : ∀ b, own σ (Nv.unw Γ1 Γ2 hs) b → own σ Γ1 b := fun b ⟨i, t, o, h1, h2⟩ => by
    rcases unw_get ll h1 with ⟨_, g1⟩ | ⟨n, g1⟩
    · exact ⟨i, t, o, g1, h2⟩
    · refine sub1 b (hsub b ⟨i, t, o, g1, ?_⟩)
      rw [wipe_out fun z => n (h i z)]
      exact h2
  refine ⟨⟨r.sub, by rw [unw_len, ll, r1.len], fun i s g h1 h2 => ?_, fun i j t o t' o' a h1 h2 h3 h4 => ?_⟩, ⟨e.ff, fun b o n => e.hh b o fun z => n (sub1 b z), fun b o n => e.fn b o fun z => n (sub1 b z), fun b z => .inl (ownsub b z)⟩, ownsub⟩
  · rcases unw_get ll h2 with ⟨m, g1⟩ | ⟨n, g1⟩
    · have q := r1.slot i s g h1 g1
      cases g with
      | un => trivial
      | dat d => obtain ⟨v, q1, q2⟩ := q; exact ⟨v, q1, q2.mono e.ff⟩
      | own t o =>
        obtain ⟨a, q1, q2, q3, q4⟩ := q
        subst q1
        obtain ⟨u, hu⟩ := q3.some
        have na := apart m g1 h1
        exact ⟨a, rfl, e.fn a u na hu q2 (q3.nt hu), q3.mono e.ff (by rw [e.hh a u na hu, hu]), q4⟩
    · refine r.slot i s g ?_ g1
      rw [wipe_out fun z => n (h i z)]
      exact h1
  · have new : ∀ {i : Nat} {t : Option Nat} {o : O} {a : Addr}, i ∉ hs → Γ2[i]? = some (Slot.own t o) → σ[i]? = some (some (V.ref a)) → (L2.wipe σ vs)[i]? = some (some (V.ref a)) ∧ own (L2.wipe σ vs) (wipeG Γ1 hs) a := fun {i t o a} n g1 g2 => by
      have q : (L2.wipe σ vs)[i]? = some (some (V.ref a)) := by rw [wipe_out fun z => n (h i z)]; exact g2
      exact ⟨q, hsub a ⟨i, t, o, g1, q⟩⟩
    rcases unw_get ll h1 with ⟨m, g1⟩ | ⟨n, g1⟩
    · rcases unw_get ll h2 with ⟨m2, g2⟩ | ⟨n2, g2⟩
      · exact r1.sep i j _ _ _ _ a g1 g2 h3 h4
      · exact absurd (new n2 g2 h4).2 (apart m g1 h3)
    · rcases unw_get ll h2 with ⟨m2, g2⟩ | ⟨n2, g2⟩
      · exact absurd (new n g1 h3).2 (apart m2 g2 h4)
      · exact r.sep i j _ _ _ _ a g1 g2 (new n g1 h3).1 (new n2 g2 h4).1
end
/-- the turns of a comprehension -/
def compL (Γ0 : Ev) (g : TgF) (t : Ev → Rs Bool) (f : Ev → Rs D) : List D → List D → Ev → Option (List D × Ev)
  | [], acc, Γ => some (acc, Γ)
  | d :: r, acc, Γ => match g d Γ with
    | none => none
    | some Γ1 => match t Γ1 with
      | .ok true Γ2 => (match f Γ2 with
        | .ok y Γ3 => if acc.length < sizeLine then compL Γ0 g t f r (acc ++ [y]) (anchor Γ0 Γ3) else none
        | _ => none)
      | .ok false Γ2 => compL Γ0 g t f r acc (anchor Γ0 Γ2)
      | _ => none
def compO (vs : List Nat) (src : Ev → Rs (List D × List Nat)) (g : TgF) (t : Ev → Rs Bool) (f : Ev → Rs D) : Ev → Rs AV := fun Γ => (src Γ).bind fun p Γ1 =>
  match compL (wipeG Γ1 (vs ++ p.2)) g t f p.1 [] (wipeG Γ1 (vs ++ p.2)) with
  | some (acc, Γ2) => .ok (.own (.lst acc)) (unw Γ1 Γ2 (vs ++ p.2))
  | none => .bad
/-- in a comprehension nothing is raised -/
abbrev Cf.calm (c : Cf) : Cf := ⟨c.M, c.σ0, fun _ _ _ _ => False⟩
theorem PoI2.imp {c : Cf} {σ : L2.St} {F H : Hp} {Γ : Ev} {r : Rs (List D × List Nat)} {R R' : It → Hp → Prop} (h : PoI2 c σ F H Γ r R) (i : ∀ J H', R J H' → R' J H') : PoI2 c σ F H Γ r R' := by
  cases r with
  | ok a Γ' => exact fun F' H' J r1 e1 v1 => i _ _ (h F' H' J r1 e1 v1)
  | ex n l Γ' => exact h
  | bad => exact h
theorem PoI2.bind2 {c : Cf} {σ : L2.St} {F H : Hp} {Γ : Ev} {α β : Type} {S : VRel α β} {Q : β → Hp → Prop} {r : Rs (List D × List Nat)} {k : List D × List Nat → Ev → Rs α} (h : Po c S σ F H Γ (r.bind k) Q) :
    PoI2 c σ F H Γ r fun J H' => ∃ F' Γ' p, Rel c.M c.σ0 F' H' σ Γ' ∧ Ext (own σ Γ) F H (own σ Γ') F' H' ∧ Wk c.M F' (pinsOf σ Γ' H' p.2) p.1 J ∧ Po c S σ F H Γ (k p Γ') Q := by
  cases r with
  | ok a Γ' => exact fun F' H' J r1 e1 v1 => ⟨F', Γ', a, r1, e1, v1, h⟩
  | ex n l Γ' => exact h
  | bad => exact h
theorem rd_lc {c : Cf} {vs ts : List Nat} {src : Ev → Rs (List D × List Nat)} {tg : TG} {g : TgF} {t : Ev → Rs Bool} {f : Ev → Rs D} (gs : GSpec c tg ts g) (hts : ∀ i ∈ ts, i ∈ vs) {σ : L2.St} {H : Hp} {Q : VK} (h : tR c (vrO c.M) (compO vs src g t f) σ H Q) :
    tLc (tI2 c src) tg (tR c.calm vrT t) (tR c.calm (vrD c.M) f) vs σ H Q := by
  obtain ⟨F, Γ, r, q⟩ := h
  refine ⟨F, Γ, r, (PoI2.bind2 q).imp fun J H1 ⟨F1, Γ1, ⟨items, hs⟩, r1, e1, ⟨G, Y, w, hG, hY⟩, q1⟩ => ?_⟩
  intro D nD
  dsimp only at w hG hY q1
  have hv : ∀ i ∈ vs, i ∈ vs ++ hs := fun i hi => List.mem_append_left _ hi
  have r0 : Rel c.M c.σ0 F1 H1 (L2.wipe σ vs) (wipeG Γ1 (vs ++ hs)) := rel_wipe r1 hv
  have hvs : ∀ i t o, (wipeG Γ1 (vs ++ hs))[i]? = some (Slot.own t o) → i ∉ vs := fun i t o q z => by
    rcases wipeG_get q with ⟨_, e⟩ | ⟨n, _⟩
    · cases e
    · exact n (hv i z)
  have nD0 : ¬ own (L2.wipe σ vs) (wipeG Γ1 (vs ++ hs)) D := fun z => by
    obtain ⟨_, u, hu⟩ := r0.ownF z
    rw [nD] at hu; cases hu
  cases hc : compL (wipeG Γ1 (vs ++ hs)) g t f items [] (wipeG Γ1 (vs ++ hs)) with
  | none => rw [hc] at q1; exact q1.elim
  | some res =>
    rw [hc] at q1
    obtain ⟨accF, ΓF⟩ := res
    dsimp only at q1
    -- the state ahead of a turn
    refine lc_it w (fun i H' => ∃ F' Γ' acc, Rel c.M c.σ0 F' H' (L2.wipe σ vs) Γ' ∧ Ext (own (L2.wipe σ vs) (wipeG Γ1 (vs ++ hs))) F1 H1 (own (L2.wipe σ vs) Γ') F' H' ∧
      (∃ xs, H' D = some (.lst xs) ∧ Reps c.M F' acc xs) ∧ F' D = none ∧ (∀ b, own (L2.wipe σ vs) Γ' b → own (L2.wipe σ vs) (wipeG Γ1 (vs ++ hs)) b) ∧ compL (wipeG Γ1 (vs ++ hs)) g t f (items.drop i) acc Γ' = some (accF, ΓF))
      ⟨F1, _, [], r0.new nD, Ext.new nD, ⟨[], upd_same, Reps.nil⟩, r1.fr nD, fun _ z => z, hc⟩ ?_ ?_ ?_
    · rintro i H' hi ⟨F', Γ', acc, ra, ea, _⟩
      refine hG F' H' ea.ff ra.sub fun a u ⟨j, hj, t', o', g1, g2, g3⟩ => ?_
      refine ea.hh a u (fun z => ?_) g3
      obtain ⟨k, t2, o2, n, k1, k2⟩ := own_wipe hv z
      have z2 := r1.sep j k _ _ _ _ a g1 k1 g2 k2
      subst z2
      exact n (List.mem_append_right _ hj)
    · rintro i x H' H'' hi ⟨F', Γ', acc, ra, ea, ⟨xs, hD, hacc⟩, fD, osub, hcl⟩ hy
      obtain ⟨F2, d, hd, e2, sub2, rd⟩ := hY i F' H' x H'' hi ea.ff ra.sub hy
      have ra2 := ra.op e2 sub2
      have ea2 : Ext (own (L2.wipe σ vs) (wipeG Γ1 (vs ++ hs))) F1 H1 (own (L2.wipe σ vs) Γ') F2 H'' := ea.trans (e2.sub fun _ z => z.elim)
      have hD2 : H'' D = some (.lst xs) := e2.hh D _ id hD
      have fD2 : F2 D = none := e2.fn D _ id hD fD trivial
      have hacc2 := hacc.mono e2.ff
      have hdrop : items.drop i = d :: items.drop (i + 1) := by
        obtain ⟨h1, h2⟩ := List.getElem?_eq_some_iff.mp hd
        rw [← h2]
        exact List.drop_eq_getElem_cons h1
      rw [hdrop] at hcl
      unfold compL at hcl
      cases hgd : g d Γ' with
      | none => rw [hgd] at hcl; cases hcl
      | some Γ3 =>
        rw [hgd] at hcl
        dsimp only at hcl
        refine gs (L2.wipe σ vs) F2 H'' Γ' x d Γ3 _ ra2 rd hgd fun σ3 x1 x2 x3 => ?_
        have hw3 : L2.wipe σ3 vs = L2.wipe σ vs := by rw [x3 vs hts, wipe_idem]
        refine ⟨hw3, F2, Γ3, x1, ?_⟩
        have nD3 : ¬ own σ3 Γ3 D := fun z => nD0 (osub D (x2 D z))
        -- what is done at the end of the turn
        have fin : ∀ {F5 H5 : Hp} {Γ5 : Ev} {acc5 : List Nv.D} {xs5 : List V}, Rel c.M c.σ0 F5 H5 σ3 Γ5 → Ext (own σ3 Γ3) F2 H'' (own σ3 Γ5) F5 H5 → H5 D = some (.lst xs5) → F5 D = none →
            ∀ {ys : List V}, Reps c.M F5 acc5 ys → compL (wipeG Γ1 (vs ++ hs)) g t f (items.drop (i + 1)) acc5 (anchor (wipeG Γ1 (vs ++ hs)) Γ5) = some (accF, ΓF) →
            ∃ F' Γ' acc, Rel c.M c.σ0 F' (upd H5 D (.lst ys)) (L2.wipe σ vs) Γ' ∧ Ext (own (L2.wipe σ vs) (wipeG Γ1 (vs ++ hs))) F1 H1 (own (L2.wipe σ vs) Γ') F' (upd H5 D (.lst ys)) ∧
              (∃ xs, (upd H5 D (.lst ys)) D = some (.lst xs) ∧ Reps c.M F' acc xs) ∧ F' D = none ∧ (∀ b, own (L2.wipe σ vs) Γ' b → own (L2.wipe σ vs) (wipeG Γ1 (vs ++ hs)) b) ∧ compL (wipeG Γ1 (vs ++ hs)) g t f (items.drop (i + 1)) acc Γ' = some (accF, ΓF) :=
          fun {F5 H5 Γ5 acc5 xs5} r5 e5 hD5 fD5 {ys} hr5 hc5 => by
            obtain ⟨y1, y2⟩ := rel_anchor r0 r5 (ea2.ff.trans e5.ff) hw3 hvs
            have ex : Ext (own (L2.wipe σ vs) (wipeG Γ1 (vs ++ hs))) F1 H1 (own (L2.wipe σ vs) (anchor (wipeG Γ1 (vs ++ hs)) Γ5)) F5 H5 :=
              (ea2.trans ((e5.wk x2).subA fun b z => (y2 b z).2))
            have nDa : ¬ own (L2.wipe σ vs) (anchor (wipeG Γ1 (vs ++ hs)) Γ5) D := fun z => nD0 (y2 D z).1
            refine ⟨F5, _, acc5, ?_, ?_, ⟨ys, upd_same, hr5⟩, fD5, fun b z => (y2 b z).1, hc5⟩
            · refine y1.grow (Evl.Ex.refl _) (fun b u hb => ?_) fun b z => ⟨upd_ne fun e => nDa (e ▸ z), (y1.ownF z).1⟩
              rw [upd_ne fun e => by rw [e, fD5] at hb; cases hb]
              exact r5.sub b u hb
            · refine ⟨ex.ff, fun b u n hb => ?_, ex.fn, ex.aa⟩
              rw [upd_ne (ne_of_none hb nD)]
              exact ex.hh b u n hb
        cases ht : t Γ3 with
        | bad => rw [ht] at hcl; cases hcl
        | ex n l Γ4 => rw [ht] at hcl; cases hcl
        | ok b Γ4 =>
          rw [ht] at hcl
          intro F4 H4 v r4 e4 ev
          have ev2 : v = b := ev
          subst ev2
          have hD4 : H4 D = some (.lst xs) := e4.hh D _ nD3 hD2
          have fD4 : F4 D = none := e4.fn D _ nD3 hD2 fD2 trivial
          have nD4 : ¬ own σ3 Γ4 D := fun z => by
            rcases e4.aa D z with z | z
            · exact nD3 z
            · rw [hD2] at z; cases z
          cases v with
          | false =>
            rw [if_neg (by decide)]
            have z := fin r4 e4 hD4 fD4 (hacc2.mono e4.ff) hcl
            have same : upd H4 D (.lst xs) = H4 := by
              funext b
              by_cases hb : b = D
              · subst hb; rw [upd_same, hD4]
              · rw [upd_ne hb]
            rw [same] at z
            exact z
          | true =>
            rw [if_pos rfl]
            dsimp only at hcl
            refine ⟨F4, Γ4, r4, ?_⟩
            cases hf : f Γ4 with
            | bad => rw [hf] at hcl; cases hcl
            | ex n l Γ5 => rw [hf] at hcl; cases hcl
            | ok y Γ5 =>
              rw [hf] at hcl
              dsimp only at hcl
              intro F5 H5 v r5 e5 rv
              split at hcl
              · rename_i hlen
                have hD5 : H5 D = some (.lst xs) := e5.hh D _ nD4 hD4
                have fD5 : F5 D = none := e5.fn D _ nD4 hD4 fD4 trivial
                have hacc5 := (hacc2.mono e4.ff).mono e5.ff
                exact ⟨xs, hD5, by rw [hacc5.length]; exact hlen, fin r5 (e4.trans e5) hD5 fD5 (hacc5.snoc rv) hcl⟩
              · cases hcl
    · rintro H' ⟨F', Γ', acc, ra, ea, ⟨xs, hD, hacc⟩, fD, osub, hcl⟩
      rw [List.drop_length] at hcl
      unfold compL at hcl
      cases hcl
      obtain ⟨y1, y2, y3⟩ := rel_unw r1 hv ra ea osub
      refine q1 F' H' (.ref D) y1 (e1.trans y2) ⟨D, rfl, fD, fun z => ?_, ⟨xs, hD, hacc⟩, e1.back (.inr nD)⟩
      obtain ⟨_, u, hu⟩ := r1.ownF (y3 D z)
      rw [nD] at hu; cases hu
section
variable {X : Cx} {c : Cf}
abbrev DTs (X : Cx) (c : Cf) (ifs : List Expr) (t : Ev → Rs Bool) : Prop := PTs X ifs (tR c vrT t)
def yesT : Ev → Rs Bool := fun Γ => .ok true Γ
theorem dts_nil : DTs X c [] yesT := ⟨fun pins s σ H Q I ⟨F, Γ, r, q⟩ => pts_nil.run pins s σ H Q I (q F H true r Ext.refl rfl)⟩
theorem do_lc {elt tg iter : Expr} {ifs : List Expr} {scope : Scope} {own : List (Str × Nat)} {pos : Pos} {src : Ev → Rs (List D × List Nat)} {g : TG} {gf : TgF} {ts : List Nat} {t : Ev → Rs Bool} {f : Ev → Rs D} (hc : X.calm = true) (hN : X.N.Nodup) (hi : DI2 X c tg iter src) (ok : BlkOk X.N X.env.scope scope own)
    (hg : ∀ (s : Shared) (H : Hp) (C : Addr) (cl : List (Str × Addr)) (fp : List Addr), PG (X.blk s H scope (compEnvC scope cl C X.env) fp) tg g) (gs : GSpec c g ts gf) (hts : ∀ i ∈ ts, i ∈ own.map (·.2)) (ht : ∀ (s : Shared) (H : Hp) (C : Addr) (cl : List (Str × Addr)) (fp : List Addr), DTs (X.blk s H scope (compEnvC scope cl C X.env) fp) c.calm ifs t)
    (he : ∀ (s : Shared) (H : Hp) (C : Addr) (cl : List (Str × Addr)) (fp : List Addr), DE (X.blk s H scope (compEnvC scope cl C X.env) fp) c.calm elt f) (hs : ∀ x, foldedSetIterable iter X.env x = pure x := by intro _; rfl) :
    DO X c (.ListComp elt [⟨tg, iter, ifs, 0⟩] scope pos) (compO (own.map (·.2)) src gf t f) := PE.of (pe_lc hc hN hi ok hg ht he hs) fun σ H Q q => rd_lc gs hts q
theorem ds_setLc {i : Nat} {y : Str} {py : Pos} {elt tg iter : Expr} {ifs : List Expr} {scope : Scope} {own : List (Str × Nat)} {pos spos : Pos} {src : Ev → Rs (List D × List Nat)} {g : TG} {gf : TgF} {ts : List Nat} {t : Ev → Rs Bool} {f : Ev → Rs D} (hc : X.calm = true) (hN : X.N.Nodup) (hy : X.N[i]? = some y) (hyl : X.env.scope.names.lookup y = some .local)
    (hsw : swapsWith (.ListComp elt [⟨tg, iter, ifs, 0⟩] scope pos) (some (.Name y py)) spos.line X.env = pure true) (hi : DI2 X c tg iter src) (ok : BlkOk X.N X.env.scope scope own)
    (hg : ∀ (s : Shared) (H : Hp) (C : Addr) (cl : List (Str × Addr)) (fp : List Addr), PG (X.blk s H scope (compEnvC scope cl C X.env) fp) tg g) (gs : GSpec c g ts gf) (hts : ∀ i ∈ ts, i ∈ own.map (·.2)) (ht : ∀ (s : Shared) (H : Hp) (C : Addr) (cl : List (Str × Addr)) (fp : List Addr), DTs (X.blk s H scope (compEnvC scope cl C X.env) fp) c.calm ifs t)
    (he : ∀ (s : Shared) (H : Hp) (C : Addr) (cl : List (Str × Addr)) (fp : List Addr), DE (X.blk s H scope (compEnvC scope cl C X.env) fp) c.calm elt f) (hs : ∀ x, foldedSetIterable iter X.env x = pure x := by intro _; rfl) :
    DS X c (.Assign [.Name y py] (.ListComp elt [⟨tg, iter, ifs, 0⟩] scope pos) spos) (setS i (compO (own.map (·.2)) src gf t f)) := PS.of (ps_setLc hc hN hy hyl hsw hi ok hg ht he hs) fun De σ H q => rd_lc gs hts (rd_set q)
end
end Nv
-- N14
namespace Nv
open PySem PySem.Spec PyProof.Rows L2
open Evl (Ex)
section
variable {X : Cx} {c : Cf} {e : Expr} {pos : Pos}
def mvE (i : Nat) : Ev → Rs AV := fun Γ => match Γ[i]? with
  | some (.dat d) => .ok (.dat d) Γ
  | some (.own none o) => .ok (.own o) (Γ.set i .un)
  | _ => .bad
theorem do_mv {i : Nat} (h : PE X e (tVar i)) : DO X c e (mvE i) := by
  refine PE.of h fun σ H Q ⟨F, Γ, r, q⟩ => ?_
  unfold mvE at q
  split at q
  · rename_i d hd
    obtain ⟨v, h1, h2⟩ := r.dat hd
    exact ⟨v, h1, q F H v r Ext.refl h2⟩
  · rename_i o ho
    obtain ⟨a, h1, h2, h3, h4, h5⟩ := r.own ho
    have no : ∀ t o', Slot.un ≠ Slot.own t o' := fun _ _ z => nomatch z
    have r2 := r.drop (i := i) (g := .un) (fun s _ => trivial) no
    have sub : ∀ b, own σ (Γ.set i .un) b → own σ Γ b := fun b z => own_drop no z
    refine ⟨.ref a, h1, q F H (.ref a) r2 ⟨Evl.Ex.refl _, fun _ _ _ h => h, fun _ _ _ _ h _ => h, fun b z => .inl (sub b z)⟩ ⟨a, rfl, h2, fun z => ?_, h3, .inl h5⟩⟩
    obtain ⟨j, t', o', z1, z2⟩ := z
    by_cases zi : i = j
    · subst zi
      rw [List.getElem?_set_self (List.getElem?_eq_some_iff.mp ho).1] at z1
      cases z1
    · rw [List.getElem?_set_ne zi] at z1
      exact zi (r.sep i j _ _ _ _ a ho z1 h1 z2)
  · exact q.elim
end
theorem rel_mut {M : Md} {σ0 σ : L2.St} {F H : Hp} {Γ : Ev} {i : Nat} {t : Option Nat} {o o' : O} {a : Addr} {u : HO} (r : Rel M σ0 F H σ Γ) (hg : Γ[i]? = some (.own t o)) (hs : σ[i]? = some (some (.ref a))) (hF : F a = none) (ho : ORep M F (upd H a u) a o') :
    Rel M σ0 F (upd H a u) σ (Γ.set i (.own t o')) ∧ Ext (own σ Γ) F H (own σ (Γ.set i (.own t o'))) F (upd H a u) := by
  have hi : i < Γ.length := (List.getElem?_eq_some_iff.mp hg).1
  have at_ : ∀ {j : Nat} {t' : Option Nat} {o1 : O}, (Γ.set i (.own t o'))[j]? = some (Slot.own t' o1) → ∃ o2, Γ[j]? = some (Slot.own t' o2) := fun {j t' o1} h => by
    by_cases z : i = j
    · subst z
      rw [List.getElem?_set_self hi] at h
      cases h
      exact ⟨o, hg⟩
    · rw [List.getElem?_set_ne z] at h
      exact ⟨o1, h⟩
  have osub : ∀ b, own σ (Γ.set i (.own t o')) b → own σ Γ b := fun b ⟨j, t', o1, h1, h2⟩ => by
    obtain ⟨o2, h3⟩ := at_ h1
    exact ⟨j, t', o2, h3, h2⟩
  refine ⟨⟨fun b x e => ?_, by rw [List.length_set]; exact r.len, fun j s g h1 h2 => ?_, fun j k t1 o1 t2 o2 b h1 h2 h3 h4 => ?_⟩, ⟨Evl.Ex.refl _, fun b x n e => ?_, fun _ _ _ _ h _ => h, fun b z => .inl (osub b z)⟩⟩
  · rw [upd_ne fun z => by rw [z, hF] at e; cases e]
    exact r.sub b x e
  · by_cases z : i = j
    · subst z
      rw [List.getElem?_set_self hi] at h2
      cases h2
      rw [hs] at h1
      cases h1
      obtain ⟨b, x1, x2, x3, x4, x5⟩ := r.own hg
      rw [hs] at x1
      cases x1
      exact ⟨a, rfl, hF, ho, x4⟩
    · rw [List.getElem?_set_ne z] at h2
      have q := r.slot j s g h1 h2
      cases g with
      | un => trivial
      | dat d => exact q
      | own t1 o1 =>
        obtain ⟨b, x1, x2, x3, x4⟩ := q
        subst x1
        have nb : b ≠ a := fun e => by
          subst e
          exact z (r.sep i j _ _ _ _ b hg h2 hs h1)
        exact ⟨b, rfl, x2, x3.mono (Evl.Ex.refl _) (upd_ne nb), x4⟩
  · obtain ⟨_, g1⟩ := at_ h1
    obtain ⟨_, g2⟩ := at_ h2
    exact r.sep j k _ _ _ _ b g1 g2 h3 h4
  · rw [upd_ne fun z => by
      subst z
      exact n ⟨i, t, o, hg, hs⟩]
    exact e
section
variable {X : Cx} {c : Cf} {e ex : Expr} {es : List Expr} {pos cpos apos : Pos}
def mutR (i : Nat) (g : List D → List D → Option (D × List D)) (os : List OV) (Γ : Ev) : Rs AV := match Γ[i]?, dats os with
  | some (.own t (.lst l)), some ds => (match g l ds with
    | some (d, l') => .ok (.dat d) (Γ.set i (.own t (.lst l')))
    | none => .bad)
  | _, _ => .bad
def isLst (Γ : Ev) (i : Nat) : Bool := match Γ[i]? with
  | some (.own _ (.lst _)) => true
  | _ => false
def mutL (i : Nat) (g : List D → List D → Option (D × List D)) (f : Ev → Rs (List OV)) : Ev → Rs AV := fun Γ => if isLst Γ i = true then (f Γ).bind fun os Γ1 => mutR i g os Γ1 else .bad
def gApp : List D → List D → Option (D × List D)
  | l, [d] => if l.length < sizeLine then some (.non, l ++ [d]) else none
  | _, _ => none
theorem Reps.dropLast {M : Md} {F : Hp} {l : List D} {xs : List V} (h : Reps M F l xs) : Reps M F l.dropLast xs.dropLast := by
  rw [List.dropLast_eq_take, List.dropLast_eq_take, h.length]
  exact h.take _
theorem Reps.eraseIdx {M : Md} {F : Hp} : ∀ {l : List D} {xs : List V} (i : Nat), Reps M F l xs → Reps M F (l.eraseIdx i) (xs.eraseIdx i)
  | [], _, _, h => by cases reps_nil.mp h; exact Reps.nil
  | d :: l, _, 0, h => by obtain ⟨v, r, rfl, h1, h2⟩ := reps_cons.mp h; exact h2
  | d :: l, _, i + 1, h => by obtain ⟨v, r, rfl, h1, h2⟩ := reps_cons.mp h; exact Reps.cons h1 (Reps.eraseIdx i h2)
def gPop0 : List D → List D → Option (D × List D)
  | l, [] => match l[l.length - 1]? with
    | some d => some (d, l.dropLast)
    | none => none
  | _, _ => none
def gPop1 : List D → List D → Option (D × List D)
  | l, [.int i] => if -(2 ^ 63) ≤ i ∧ i < 2 ^ 63 then (match seqIndex? i l.length with
    | some k => (match l[k]? with
      | some d => some (d, l.eraseIdx k)
      | none => none)
    | none => none) else none
  | _, _ => none
def gPut : O → D → D → Option O
  | .dct l, k, d => match k.key with
    | some _ => if l.length < sizeLine then some (.dct (dput l k d)) else none
    | none => none
  | .dtt l, k, d => match k.keyT with
    | some _ => if l.length < sizeLine then some (.dtt (dput l k d)) else none
    | none => none
  | .lst l, .int i, d => (ixN l.length i).map fun j => .lst (l.set j d)
  | _, _, _ => none
/-- d[y] = v of dicts and lists -/
def UPut (H : Hp) (a : Addr) (y v : V) (H' : Hp) : Prop := DPut H a y v H' ∨ ∃ xs k j, H a = some (.lst xs) ∧ y = .int k ∧ ixN xs.length k = some j ∧ H' = upd H a (.lst (xs.set j v))
def sUPut (td ty tv : TE) : TS := fun De σ H => tv σ H fun v H1 => td σ H1 fun x H2 => ty σ H2 fun y H3 => ∃ a H4, x = .ref a ∧ UPut H3 a y v H4 ∧ De.nx σ H4
theorem ps_uput {o i value : Expr} {pos pos' : Pos} {td ty tv : TE} (hu : X.A.units + 1 < cLine) (ho : PE X o td) (hi : PE X i ty) (hv : PE X value tv) (hs : swapsWith value (some (.Subscript o i pos')) pos.line X.env = pure false) :
    PS X (.Assign [.Subscript o i pos'] value pos) (sUPut td ty tv) := by
  refine ⟨fun pins s σ H De I h => ?_⟩
  refine wpAny_Assign_Subscript (thn (hv.run pins s σ H _ I h) fun r s1 ⟨v, H1, I1, rv, q1⟩ => thn (ho.run pins s1 σ H1 _ I1 q1) fun u s2 ⟨x, H2, I2, rx, q2⟩ => thn (hi.run pins s2 σ H2 _ I2 q2) fun iv s3 ⟨y, H3, I3, ry, a, H4, ex, g, q3⟩ => ?_) hs
  subst ex
  rcases g with g | ⟨xs, k, j, g1, g2, g3, g4⟩
  · obtain rfl : u = Value.ref a := rx
    exact d_setItem hu I3 g ry rv fun s4 I4 => ⟨σ, H4, I4, q3⟩
  · subst g4
    exact thn (set_list pins s3 σ H3 (.ref a) y v u iv r (fun H' => De.nx σ H') I3 rx ry rv ⟨a, xs, k, j, rfl, g2, g1, g3, q3⟩) fun _ s4 ⟨H', I4, q4⟩ => ⟨σ, H', I4, q4⟩
theorem Reps.set {M : Md} {F : Hp} : ∀ {l : List D} {xs : List V} {j : Nat} {d : D} {v : V}, Reps M F l xs → Rep M F d v → Reps M F (l.set j d) (xs.set j v)
  | [], _, _, _, _, h, _ => by cases reps_nil.mp h; exact Reps.nil
  | x :: l, _, 0, _, _, h, hv => by
    obtain ⟨w, r, rfl, h1, h2⟩ := reps_cons.mp h
    exact Reps.cons hv h2
  | x :: l, _, j + 1, _, _, h, hv => by
    obtain ⟨w, r, rfl, h1, h2⟩ := reps_cons.mp h
    exact Reps.cons h1 (Reps.set h2 hv)
def isOwn (Γ : Ev) (i : Nat) : Bool := match Γ[i]? with
  | some (.own _ _) => true
  | _ => false
def putR (i : Nat) (ok : OV) (d : D) (Γ : Ev) : Option Ev := match Γ[i]?, ok.get Γ with
  | some (.own t o), some k => (match gPut o k d with
    | some o' => some (Γ.set i (.own t o'))
    | none => none)
  | _, _ => none
def putS (i : Nat) (fk : Ev → Rs OV) (fv : Ev → Rs D) : Ev → Out := fun Γ => (fv Γ).out fun d Γ1 => if isOwn Γ1 i = true then (fk Γ1).out fun ok Γ2 => optS (putR i ok d Γ2) else .bad
theorem RepK.len {M : Md} {F : Hp} : ∀ {l : List (D × D)} {xs : List (Key × V)}, RepK M F l xs → xs.length = l.length
  | [], _, h => by cases repK_nil.mp h; rfl
  | p :: l, _, h => by obtain ⟨q, v, r, rfl, _, _, h3⟩ := repK_cons.mp h; rw [List.length_cons, RepK.len h3, List.length_cons]
theorem RepT.len {M : Md} {F : Hp} : ∀ {l : List (D × D)} {xs : List (List Key × V)}, RepT M F l xs → xs.length = l.length
  | [], _, h => by cases repT_nil.mp h; rfl
  | p :: l, _, h => by obtain ⟨q, v, r, rfl, _, _, h3⟩ := repT_cons.mp h; rw [List.length_cons, RepT.len h3, List.length_cons]
theorem put_rel {M : Md} {σ0 σ : L2.St} {F H : Hp} {Γ Γ' : Ev} {i : Nat} {ok : OV} {d : D} {x y v : V} (r : Rel M σ0 F H σ Γ) (hx : σ[i]? = some (some x)) (hy : ovR M σ F y ok) (hv : Rep M F d v) (h : putR i ok d Γ = some Γ') :
    ∃ a H', x = .ref a ∧ UPut H a y v H' ∧ Rel M σ0 F H' σ Γ' ∧ Ext (own σ Γ) F H (own σ Γ') F H' := by
  unfold putR at h
  split at h
  · rename_i t o k hg hk
    split at h
    · rename_i o' hp
      cases h
      obtain ⟨a, h1, h2, h3, _⟩ := r.own hg
      rw [hx] at h1
      cases h1
      have rk := get_rep r hk hy
      unfold gPut at hp
      split at hp
      · rename_i l
        split at hp
        · rename_i k' hk'
          split at hp
          · rename_i hl
            cases hp
            obtain ⟨rfl, rfl, kok⟩ := key1 rk hk'
            obtain ⟨kvs, x1, x2⟩ := h3
            have q := rel_mut (u := .dK (putK kvs k' v)) (o' := .dct (dput l (kD k') d)) r hg hx h2 ⟨_, upd_same, x2.put k' kok hv⟩
            exact ⟨a, _, rfl, .inl (.inl ⟨kvs, k', x1, rfl, by rw [x2.len]; exact hl, rfl⟩), q.1, q.2⟩
          · cases hp
        · cases hp
      · rename_i l
        split at hp
        · rename_i k' hk'
          split at hp
          · rename_i hl
            cases hp
            obtain ⟨rfl, ⟨b, rfl, hb⟩, kok⟩ := keyT1 rk hk'
            obtain ⟨kvs, x1, x2⟩ := h3
            have q := rel_mut (u := .dT (putK kvs k' v)) (o' := .dtt (dput l (.tup (k'.map kD)) d)) r hg hx h2 ⟨_, upd_same, x2.put k' kok hv⟩
            exact ⟨a, _, rfl, .inl (.inr ⟨kvs, k', b, x1, rfl, r.sub _ _ hb, by rw [x2.len]; exact hl, rfl⟩), q.1, q.2⟩
          · cases hp
        · cases hp
      · rename_i l k2
        obtain ⟨j, hj, e⟩ := Option.map_eq_some_iff.mp hp
        cases e
        obtain ⟨xs, x1, x2⟩ := h3
        have rk2 : Rep M F (.int k2) y := rk
        cases rep_int.mp rk2
        have q := rel_mut (u := .lst (xs.set j v)) (o' := .lst (l.set j d)) r hg hx h2 ⟨_, upd_same, x2.set hv⟩
        exact ⟨a, _, rfl, .inr ⟨xs, k2, j, x1, rfl, by rw [x2.length]; exact hj, rfl⟩, q.1, q.2⟩
      · cases hp
    · cases h
  · cases h
theorem isOwn_of {M : Md} {σ0 σ : L2.St} {F H : Hp} {Γ : Ev} {i : Nat} (r : Rel M σ0 F H σ Γ) (h : isOwn Γ i = true) : ∃ a, σ[i]? = some (some (.ref a)) := by
  unfold isOwn at h
  split at h
  · rename_i t o hg
    obtain ⟨a, h1, _⟩ := r.own hg
    exact ⟨a, h1⟩
  · cases h
theorem ds_put {i : Nat} {o k v : Expr} {pos' : Pos} {fk : Ev → Rs OV} {fv : Ev → Rs D} (hu : X.A.units + 1 < cLine) (ho : PE X o (tVar i)) (hk : DB X c k fk) (hv : DE X c v fv) (hs : swapsWith v (some (.Subscript o k pos')) pos.line X.env = pure false := by rfl) :
    DS X c (.Assign [.Subscript o k pos'] v pos) (putS i fk fv) := by
  refine PS.of (ps_uput hu ho hk hv hs) fun De σ H ⟨F, Γ, r, q⟩ => ⟨F, Γ, r, ?_⟩
  refine (PoS.out (R := vrD c.M) q).imp fun w H1 ⟨F1, Γ1, d, r1, e1, a1, q1⟩ => ?_
  split at q1
  · rename_i hi
    obtain ⟨a, hx⟩ := isOwn_of r1 hi
    refine ⟨.ref a, hx, F1, Γ1, r1, ?_⟩
    refine (PoS.out (R := vrB c.M) (PoS.shift e1 q1)).imp fun y H2 ⟨F2, Γ2, ok, r2, e2, a2, q2⟩ => ?_
    cases hp : putR i ok d Γ2 with
    | none => rw [hp] at q2; exact q2.elim
    | some Γ3 =>
      rw [hp] at q2
      obtain ⟨a', H', x1, x2, x3, x4⟩ := put_rel r2 hx a2 (Rep.mono e2.ff a1) hp
      exact ⟨a', H', x1, x2, q2 σ F2 H' x3 (e2.trans x4)⟩
  · exact q1.elim
def putD (f : Str) (d : D) : List (Str × D) → List (Str × D)
  | [] => [(f, d)]
  | (g, x) :: r => if g = f then (g, d) :: r else (g, x) :: putD f d r
theorem RepF.put {M : Md} {F : Hp} {f : Str} {d : D} {v : V} (hv : Rep M F d v) : ∀ {l : List (Str × D)} {xs : List (Str × V)}, RepF M F l xs → RepF M F (putD f d l) (putF f v xs)
  | [], _, h => by
    cases repF_nil.mp h
    exact repF_cons.mpr ⟨v, [], rfl, hv, repF_nil.mpr rfl⟩
  | (g, x) :: l, _, h => by
    obtain ⟨w, r, rfl, h1, h2⟩ := repF_cons.mp h
    unfold putD putF
    dsimp only
    split
    · exact repF_cons.mpr ⟨v, r, rfl, hv, h2⟩
    · exact repF_cons.mpr ⟨w, _, rfl, h1, RepF.put hv h2⟩
theorem RepF.len {M : Md} {F : Hp} : ∀ {l : List (Str × D)} {xs : List (Str × V)}, RepF M F l xs → xs.length = l.length
  | [], _, h => by cases repF_nil.mp h; rfl
  | p :: l, _, h => by obtain ⟨v, r, rfl, _, h3⟩ := repF_cons.mp h; rw [List.length_cons, RepF.len h3, List.length_cons]
def fldR (i : Nat) (f : Str) (cs : List Str) (d : D) (Γ : Ev) : Option Ev := match Γ[i]? with
  | some (.own t (.ins n l)) => if n ∈ cs ∧ l.length < 1000 then some (Γ.set i (.own t (.ins n (putD f d l)))) else none
  | _ => none
def fldS (i : Nat) (f : Str) (cs : List Str) (fv : Ev → Rs D) : Ev → Out := fun Γ => (fv Γ).out fun d Γ1 => optS (fldR i f cs d Γ1)
theorem ds_fld {i : Nat} {o v : Expr} {f : Str} {cs : List Str} {pos' : Pos} {fv : Ev → Rs D} (hf : FldOk ⟨X.K, X.mg⟩ f cs) (hM : c.M = ⟨X.K, X.mg⟩) (ho : PE X o (tVar i)) (hv : DE X c v fv) (hs : swapsWith v (some (.Attribute o f pos')) pos.line X.env = pure false := by rfl) :
    DS X c (.Assign [.Attribute o f pos'] v pos) (fldS i f cs fv) := by
  refine PS.of (ps_fld ho hv hs) fun De σ H ⟨F, Γ, r, q⟩ => ⟨F, Γ, r, ?_⟩
  refine (PoS.out (R := vrD c.M) q).imp fun w H1 ⟨F1, Γ1, d, r1, e1, a1, q1⟩ => ?_
  cases hp : fldR i f cs d Γ1 with
  | none => rw [hp] at q1; exact q1.elim
  | some Γ3 =>
    rw [hp] at q1
    unfold fldR at hp
    split at hp
    · rename_i t n l hg
      split at hp
      · rename_i hn
        cases hp
        obtain ⟨a, h1, h2, ⟨C, dx, fs, h3, h4, h5⟩, _⟩ := r1.own hg
        have h3' := h3
        rw [hM] at h3'
        obtain ⟨k1, k2⟩ := hf n hn.1 C h3'
        obtain ⟨r2, e2⟩ := rel_mut (u := .ins C dx (putF f w fs)) (o' := .ins n (putD f d l)) r1 hg h1 h2 ⟨C, dx, _, h3, upd_same, h5.put a1⟩
        exact ⟨.ref a, h1, a, C, dx, fs, rfl, h4, k1, k2, by rw [h5.len]; exact hn.2, q1 σ F1 _ r2 (e1.trans e2)⟩
      · cases hp
    · cases hp
def par2 (i j : Nat) (f1 f2 : Ev → Rs AV) : Ev → Out := fun Γ => (f1 Γ).out fun a1 Γ1 => (f2 Γ1).out fun a2 Γ2 => optS ((setG Γ2 i a1).bind fun Γ3 => setG Γ3 j a2)
/-- a new own one stands while more is done -/
theorem AVR.keep {M : Md} {A0 A A' : Addr → Prop} {H0 F H F' H' : Hp} {v : V} {av : AV} (h : AVR M A0 H0 F H A v av) (e : Ext A F H A' F' H') : AVR M A0 H0 F' H' A' v av := by
  cases av with
  | dat d => exact Rep.mono e.ff h
  | own o =>
    obtain ⟨p, x0, x1, x2, x3, x4⟩ := h
    obtain ⟨u, hu⟩ := x3.some
    have n' : ¬ A' p := fun z => by
      rcases e.aa p z with z | z
      · exact x2 z
      · rw [hu] at z; cases z
    exact ⟨p, x0, e.fn p u x2 hu x1 (x3.nt hu), n', x3.mono e.ff (by rw [e.hh p u x2 hu, hu]), x4⟩
/-- .. and the later one stands apart from it -/
theorem AVR.apart {M : Md} {A0 A1 A A' : Addr → Prop} {H0 F H F' H' : Hp} {v w : V} {o : O} {av : AV} (h : AVR M A0 H0 F H A v (.own o)) (e : Ext A F H A' F' H') (h2 : AVR M A H F' H' A' w av) : ∀ p, v = .ref p → ∀ o', av = .own o' → w ≠ .ref p := fun p ev o' ea ew => by
  subst ea
  obtain ⟨p1, x0, x1, x2, x3, x4⟩ := h
  obtain ⟨q, y0, y1, y2, y3, y4⟩ := h2
  rw [x0] at ev
  cases ev
  rw [y0] at ew
  cases ew
  obtain ⟨u, hu⟩ := x3.some
  rcases y4 with y4 | y4
  · exact x2 y4
  · rw [hu] at y4; cases y4
/-- set twice: the second new one is not the first -/
theorem set_keep {M : Md} {σ0 σ : L2.St} {F H : Hp} {Γ Γ' : Ev} {i : Nat} {a1 a2 : AV} {v w : V} {A0 A1 : Addr → Prop} {H0 H1 : Hp} (r : Rel M σ0 F H σ Γ) (h : setG Γ i a1 = some Γ') (x1 : AVR M A0 H0 F H (own σ Γ) v a1) (x2 : AVR M A1 H1 F H (own σ Γ) w a2)
    (ap : ∀ o, a1 = .own o → ∀ p, v = .ref p → ∀ o', a2 = .own o' → w ≠ .ref p) : AVR M A1 H1 F H (own (σ.set i (some v)) Γ') w a2 := by
  cases a2 with
  | dat d => exact x2
  | own o' =>
    obtain ⟨p, y0, y1, y2, y3, y4⟩ := x2
    refine ⟨p, y0, y1, fun z => ?_, y3, y4⟩
    unfold setG at h
    split at h
    · rename_i hok
      cases h
      obtain ⟨j, t, o2, z1, z2⟩ := z
      have hi : i < Γ.length := by
        unfold setOk at hok
        cases q : Γ[i]? with
        | none => rw [q] at hok; cases hok
        | some g => exact (List.getElem?_eq_some_iff.mp q).1
      have hi2 : i < σ.length := by rw [r.len]; exact hi
      by_cases zi : i = j
      · subst zi
        rw [List.getElem?_set_self hi] at z1
        rw [List.getElem?_set_self hi2] at z2
        cases a1 with
        | dat d => cases z1
        | own o1 =>
          cases z2
          exact ap o1 rfl p rfl o' rfl y0
      · rw [List.getElem?_set_ne zi] at z1 z2
        exact y2 ⟨j, t, o2, z1, z2⟩
    · cases h
theorem PoS.out2 {α β : Type} {R : VRel α β} {σ : L2.St} {F H F1 H1 : Hp} {Γ Γ1 : Ev} {De : Ends} {r : Rs α} {k : α → Ev → Out} (h : PoS c σ F H Γ (r.out k) De) (e1 : Ext (own σ Γ) F H (own σ Γ1) F1 H1) :
    Po c R σ F1 H1 Γ1 r (fun v H' => ∃ F' Γ' a, Rel c.M c.σ0 F' H' σ Γ' ∧ Ext (own σ Γ1) F1 H1 (own σ Γ') F' H' ∧ R σ F1 H1 Γ1 F' H' Γ' v a ∧ PoS c σ F H Γ (k a Γ') De) := by
  cases r with
  | ok a Γ' => exact fun F' H' v r1 e1 v1 => ⟨F', Γ', a, r1, e1, v1, h⟩
  | ex n l Γ' => exact fun F' H' C dx r2 e2 m x => h σ F' H' C dx r2 (e1.trans e2) m x
  | bad => exact h
theorem ds_par {i j : Nat} {x y : Str} {a b : Expr} {px py pt : Pos} {kt k2 : Nat} {pt2 : Pos} {f1 f2 : Ev → Rs AV} (hc : X.calm = true) (hN : X.N.Nodup) (ha : DO X c a f1) (hb : DO X c b f2)
    (hi : X.N[i]? = some x := by rfl) (hj : X.N[j]? = some y := by rfl) (hij : i ≠ j := by decide) (hx : X.env.scope.names.lookup x = some .local := by rfl) (hy : X.env.scope.names.lookup y = some .local := by rfl)
    (hw : swappedStores [.Tuple [.Name x px, .Name y py] kt pt] (.Tuple [a, b] k2 pt2) X.env = pure (some [x, y]) := by rfl)
    (hs : swapsWithSole [.Tuple [.Name x px, .Name y py] kt pt] (.Tuple [a, b] k2 pt2) pos.line X.env = pure false := by rfl)
    (st : starEach [a, b] X.env = (false, eval a X.env) :: starEach [b] X.env := by rfl) (st2 : starEach [b] X.env = (false, eval b X.env) :: starEach [] X.env := by rfl) :
    DS X c (.Assign [.Tuple [.Name x px, .Name y py] kt pt] (.Tuple [a, b] k2 pt2) pos) (par2 i j f1 f2) := by
  refine PS.of (ps_par hc hN hi hj hij hx hy (pa_cons ha (pa_cons hb pa_nil st2) st) hw hs) fun De σ H ⟨F, Γ, r, q⟩ => ⟨F, Γ, r, ?_⟩
  refine (PoS.out (R := vrO c.M) q).imp fun v H1 ⟨F1, Γ1, a1, r1, e1, x1, q1⟩ => ⟨F1, Γ1, r1, ?_⟩
  refine (PoS.out2 (R := vrO c.M) q1 e1).imp fun w H2 ⟨F2, Γ2, a2, r2, e2, x2, q2⟩ => ?_
  refine ⟨v, w, rfl, ?_⟩
  have x1' : AVR c.M (own σ Γ) H F2 H2 (own σ Γ2) v a1 := AVR.keep x1 e2
  have ap : ∀ o, a1 = .own o → ∀ p, v = .ref p → ∀ o', a2 = .own o' → w ≠ .ref p := fun o eo => by
    subst eo
    exact AVR.apart (A1 := own σ Γ1) x1 e2 x2
  cases h1 : setG Γ2 i a1 with
  | none => rw [h1] at q2; exact q2.elim
  | some Γ3 =>
    rw [h1] at q2
    obtain ⟨r3, o3⟩ := set_rel r2 h1 x1'
    have q3 : PoS c σ F H Γ (optS (setG Γ3 j a2)) De := q2
    cases h2 : setG Γ3 j a2 with
    | none =>
      rw [h2] at q3
      exact q3.elim
    | some Γ4 =>
      rw [h2] at q3
      obtain ⟨r4, o4⟩ := set_rel r3 h2 (set_keep r2 h1 x1' x2 ap)
      refine q3 _ F2 H2 r4 ((e1.trans e2).own fun b hb => ?_)
      rcases o4 b hb with z | z
      · rcases o3 b z with z | z | z
        · exact .inl z
        · exact .inr (.inl z)
        · exact .inr (.inr z)
      · exact .inr (e1.back z)
def par3 (i j l : Nat) (f1 f2 f3 : Ev → Rs AV) : Ev → Out := fun Γ => (f1 Γ).out fun a1 Γ1 => (f2 Γ1).out fun a2 Γ2 => (f3 Γ2).out fun a3 Γ3 => optS ((setG Γ3 i a1).bind fun Γ4 => (setG Γ4 j a2).bind fun Γ5 => setG Γ5 l a3)
end
end Nv
-- N15
namespace L2
open PySem PySem.Spec PyProof.Rows
end L2
namespace Nv
open PySem PySem.Spec PyProof.Rows L2
open Evl (Ex)
section
variable {X : Cx} {c : Cf} {e : Expr} {pos : Pos}
def newE (o : O) : Ev → Rs AV := fun Γ => .ok (.own o) Γ
/-- a fresh object that is no slot's stands through what is done -/
theorem Ext.stay {A A' : Addr → Prop} {F H F' H' : Hp} {p : Addr} {u : HO} (e : Ext A F H A' F' H') (n : ¬ A p) (h : H p = some u) : H' p = some u ∧ ¬ A' p := ⟨e.hh p u n h, fun z => by
  rcases e.aa p z with z | z
  · exact n z
  · rw [h] at z; cases z⟩
theorem Ext.put {A A' : Addr → Prop} {F H F' H' : Hp} {p : Addr} {u : HO} (e : Ext A F H A' F' H') (n : H p = none) : Ext A F H A' F' (upd H' p u) := ⟨e.ff, fun b o na hb => by rw [upd_ne (ne_of_none hb n)]; exact e.hh b o na hb, e.fn, e.aa⟩
theorem Rel.put {M : Md} {σ0 σ : L2.St} {F H : Hp} {Γ : Ev} {p : Addr} {u : HO} (r : Rel M σ0 F H σ Γ) (nF : F p = none) (no : ¬ Nv.own σ Γ p) : Rel M σ0 F (upd H p u) σ Γ :=
  r.grow (Evl.Ex.refl _) (fun b x hb => by rw [upd_ne fun e => by rw [e, nF] at hb; cases hb]; exact r.sub b x hb) fun b z => ⟨upd_ne fun e => no (e ▸ z), (r.ownF z).1⟩
theorem Po.bind2 {α β γ δ : Type} {R : VRel α β} {S : VRel γ δ} {σ : L2.St} {F H F1 H1 : Hp} {Γ Γ1 : Ev} {Q : δ → Hp → Prop} {r : Rs α} {k : α → Ev → Rs γ} (h : Po c S σ F H Γ (r.bind k) Q) (e1 : Ext (own σ Γ) F H (own σ Γ1) F1 H1) :
    Po c R σ F1 H1 Γ1 r (fun v H' => ∃ F' Γ' a, Rel c.M c.σ0 F' H' σ Γ' ∧ Ext (own σ Γ1) F1 H1 (own σ Γ') F' H' ∧ R σ F1 H1 Γ1 F' H' Γ' v a ∧ Po c S σ F H Γ (k a Γ') Q) := by
  cases r with
  | ok a Γ' => exact fun F' H' v r1 e1 v1 => ⟨F', Γ', a, r1, e1, v1, h⟩
  | ex n l Γ' => exact fun F' H' C dx r2 e2 m x => h F' H' C dx r2 (e1.trans e2) m x
  | bad => exact h
def dispTO (fk : Ev → Rs OV) (fv : Ev → Rs D) : Ev → Rs AV := fun Γ => (fk Γ).bind fun ok Γ1 => (fv Γ1).bind fun d Γ2 => match ok.get Γ2 with
  | some k => (match k.keyT with
    | some _ => .ok (.own (.dtt [(k, d)])) Γ2
    | none => .bad)
  | none => .bad
def pairsR (M : Md) (F : Hp) : List (V × V) → List (D × D) → Prop
  | [], [] => True
  | p :: ps, d :: ds => Rep M F d.1 p.1 ∧ Rep M F d.2 p.2 ∧ pairsR M F ps ds
  | _, _ => False
theorem pairsR.mono {M : Md} {F F' : Hp} (e : Ex F F') : ∀ {ps : List (V × V)} {ds : List (D × D)}, pairsR M F ps ds → pairsR M F' ps ds
  | [], [], _ => trivial
  | _ :: _, _ :: _, h => ⟨Rep.mono e h.1, Rep.mono e h.2.1, pairsR.mono e h.2.2⟩
  | [], _ :: _, h => h.elim
  | _ :: _, [], h => h.elim
def vrPs (M : Md) : VRel (List (D × D)) (List (V × V)) := fun _ _ _ _ F' _ _ ps ds => pairsR M F' ps ds
theorem sh_Ps {M : Md} : Shifts (vrPs M) := fun _ _ _ _ _ _ _ _ _ _ _ _ _ h => h
def prNil : Ev → Rs (List (D × D)) := fun Γ => .ok [] Γ
def prCons (fk fv : Ev → Rs D) (f : Ev → Rs (List (D × D))) : Ev → Rs (List (D × D)) := fun Γ => (fk Γ).bind fun k Γ => (fv Γ).bind fun v Γ => (f Γ).bind fun r Γ => .ok ((k, v) :: r) Γ
structure DPs (X : Cx) (c : Cf) (pos : Pos) (keys : List (Option Expr)) (values : List Expr) (f : Ev → Rs (List (D × D))) : Prop where
  ex : ∃ trs, PPs X pos keys values trs ∧ ∀ σ H Q, tR c (vrPs c.M) f σ H Q → tPairs trs σ H Q
theorem dps_nil : DPs X c pos [] [] prNil := ⟨[], pps_nil, fun σ H Q ⟨F, Γ, r, q⟩ => q F H [] r Ext.refl trivial⟩
theorem dps_cons {k v : Expr} {ks : List (Option Expr)} {vs : List Expr} {fk fv : Ev → Rs D} {f : Ev → Rs (List (D × D))} (hk : DE X c k fk) (hv : DE X c v fv) (h : DPs X c pos ks vs f) : DPs X c pos (some k :: ks) (v :: vs) (prCons fk fv f) := by
  obtain ⟨trs, h1, h2⟩ := h.ex
  refine ⟨_, pps_cons hk hv h1, fun σ H Q ⟨F, Γ, r, q⟩ => ⟨F, Γ, r, ?_⟩⟩
  refine (Po.bind (R := vrD c.M) q).imp fun x H1 ⟨F1, Γ1, dk, r1, e1, a1, q1⟩ => ⟨F1, Γ1, r1, ?_⟩
  refine (Po.bind (R := vrD c.M) (Po.shift sh_Ps e1 q1)).imp fun y H2 ⟨F2, Γ2, dv, r2, e2, a2, q2⟩ => h2 σ H2 _ ⟨F2, Γ2, r2, ?_⟩
  refine (Po.bind (R := vrPs c.M) (Po.shift sh_Ps e2 q2)).imp fun ps H3 ⟨F3, Γ3, ds, r3, e3, a3, q3⟩ => ?_
  exact q3 F3 H3 _ r3 e3 ⟨(Rep.mono e2.ff a1).mono e3.ff, Rep.mono e3.ff a2, a3⟩
def keysOk : List (D × D) → Bool
  | [] => true
  | p :: r => p.1.key.isSome && keysOk r
def merD (l : List (D × D)) : List (D × D) → List (D × D)
  | [] => l
  | p :: r => merD (dput l p.1 p.2) r
def dispO (f : Ev → Rs (List (D × D))) : Ev → Rs AV := fun Γ => (f Γ).bind fun ds Γ1 => if keysOk ds = true ∧ ds.length ≤ 15 then .ok (.own (.dct (merD [] ds))) Γ1 else .bad
theorem pairs_keys {M : Md} {F : Hp} : ∀ {ps : List (V × V)} {ds : List (D × D)}, pairsR M F ps ds → keysOk ds = true → ∃ kvs : List (Key × V), ps = kvs.map (fun kv => (kV kv.1, kv.2)) ∧ kvs.length = ds.length ∧ ∀ {l : List (D × D)} {xs : List (Key × V)}, RepK M F l xs → RepK M F (merD l ds) (mergeK xs kvs)
  | [], [], _, _ => ⟨[], rfl, rfl, fun h => h⟩
  | p :: ps, d :: ds, h, hk => by
    unfold keysOk at hk
    obtain ⟨k1, k2⟩ := (Bool.and_eq_true _ _ ▸ hk : _ ∧ _)
    obtain ⟨kvs, e1, e2, e3⟩ := pairs_keys h.2.2 k2
    obtain ⟨k, hk'⟩ := Option.isSome_iff_exists.mp k1
    obtain ⟨x, y⟩ := p
    obtain ⟨dk, dv⟩ := d
    have z := key_kD hk'
    dsimp only at z
    subst z
    obtain ⟨h1, h2, _⟩ := h
    obtain ⟨ex, kok⟩ := kv_rep h1
    dsimp only at ex
    subst ex
    exact ⟨(k, y) :: kvs, by rw [e1]; rfl, by rw [List.length_cons, e2, List.length_cons], fun hl => e3 (hl.put k kok h2)⟩
  | [], _ :: _, h, _ => h.elim
  | _ :: _, [], h, _ => h.elim
theorem do_disp {keys : List (Option Expr)} {values : List Expr} {f : Ev → Rs (List (D × D))} (h : DPs X c pos keys values f) (hall : keys.all (·.isSome) = true := by rfl) (hl : keys.length = values.length := by rfl) (h0 : keys ≠ [] := by exact (fun z => nomatch z))
    (h15 : keys.length ≤ 15 := by exact Nat.le_of_ble_eq_true rfl) : DO X c (.Dict keys values pos) (dispO f) := by
  obtain ⟨trs, h1, h2⟩ := h.ex
  refine PE.of (pe_disp h1 hall hl h0 h15) fun σ H Q ⟨F, Γ, r, q⟩ p n => h2 σ _ _ ⟨F, Γ, r.new n, ?_⟩
  have nF : F p = none := r.fr n
  have nO : ¬ own σ Γ p := fun z => by
    obtain ⟨_, w, hw⟩ := r.ownF z
    rw [n] at hw; cases hw
  have e0 : Ext (own σ Γ) F H (own σ Γ) F (upd H p (.dK [])) := Ext.new n
  refine (Po.bind2 (R := vrPs c.M) q e0).imp fun ps H1 ⟨F1, Γ1, ds, r1, e1, a1, q1⟩ => ?_
  obtain ⟨p1, n1⟩ := e1.stay nO upd_same
  have f1 : F1 p = none := e1.fn p _ nO upd_same nF trivial
  split at q1
  · rename_i hk
    obtain ⟨kvs, k1, k2, k3⟩ := pairs_keys a1 hk.1
    exact ⟨p1, kvs, k1, by rw [k2]; exact hk.2, q1 F1 _ _ (r1.put f1 n1) ((e0.trans e1).put n) ⟨p, rfl, f1, n1, ⟨_, upd_same, k3 (repK_nil.mpr rfl)⟩, .inr n⟩⟩
  · exact q1.elim
def isDct : D → Bool
  | .dct _ => true
  | .dtt _ => true
  | _ => false
def getR (f : Option D → D) (o ok : OV) (Γ : Ev) : Rs AV := match o.get Γ, ok.get Γ with
  | some d, some k => (match gGet d k with
    | some r => .ok (.dat (f r)) Γ
    | none => .bad)
  | _, _ => .bad
def get1O (fo fk : Ev → Rs OV) : Ev → Rs AV := fun Γ => (fo Γ).bind fun o Γ1 => if (match o.get Γ1 with | some d => isDct d | none => false) = true then (fk Γ1).bind fun ok Γ2 => getR (fun r => r.getD .non) o ok Γ2 else .bad
def get2O (fo fk : Ev → Rs OV) (fx : Ev → Rs D) : Ev → Rs AV := fun Γ => (fo Γ).bind fun o Γ1 => if (match o.get Γ1 with | some d => isDct d | none => false) = true then (fk Γ1).bind fun ok Γ2 => (fx Γ2).bind fun x Γ3 => getR (fun r => r.getD x) o ok Γ3 else .bad
theorem RO.getD {M : Md} {F : Hp} {o : Option D} {v : Option V} {d : D} {w : V} (h : RO M F o v) (hd : Rep M F d w) : Rep M F (o.getD d) (v.getD w) := by
  cases o with
  | none =>
    cases v with
    | none => exact hd
    | some v => exact h.elim
  | some o =>
    cases v with
    | none => exact h.elim
    | some v => exact h
end
end Nv
-- N16
namespace Nv
open PySem PySem.Spec PyProof.Rows L2
open Evl (Ex)
section
variable {X : Cx} {c : Cf} {a b d e : Expr} {es : List Expr} {pos p : Pos} {x : Str}
def frzE (f : Ev → Rs AV) : Ev → Rs D := fun Γ => AV.frz (f Γ)
theorem de_o {f : Ev → Rs AV} (h : DO X c e f) : DE X c e (frzE f) := de_frz h
def tstE (f : Ev → Rs AV) : Ev → Rs Bool := fun Γ => tst (f Γ)
theorem de_g {i : Int} (h : ∃ u, X.mg x = some u ∧ RelV (.int i) u) (hg : Gl X x := by rfl) (hd : (x == ("__debug__" : Str)) = false := by decide) : DE X c (.Name x pos) (cst (.int i)) := by
  obtain ⟨u, h1, h2⟩ := h
  exact de_gint h1 h2 hg hd
/-- comparisons -/
structure Cm (X : Cx) (c : Cf) (op : CmpOp) (g : D → D → Option AV) : Prop where
  ex : ∃ r, OpR X (compareOp op) r ∧ O2 c.M r g
theorem cm_Eq (hu : X.A.units + 65 < cLine) (hM : c.M = ⟨X.K, X.mg⟩) : Cm X c .Eq gEq := ⟨_, op_eqD (by omega), by rw [hM]; exact o2_eq⟩
theorem cm_Ne (hu : X.A.units + 65 < cLine) (hM : c.M = ⟨X.K, X.mg⟩) : Cm X c .NotEq gNe := ⟨_, op_neD (by omega), by rw [hM]; exact o2_ne⟩
theorem cm_Lt : Cm X c .Lt gLt := ⟨_, op_lt, o2_lt⟩
theorem cm_Le : Cm X c .LtE gLe := ⟨_, op_le, o2_le⟩
theorem cm_Gt : Cm X c .Gt gGt := ⟨_, op_gt, o2_gt⟩
theorem cm_Ge : Cm X c .GtE gGe := ⟨_, op_ge, o2_ge⟩
section
variable {op op' : CmpOp} {g g' : D → D → Option AV} {fa fb fc : Ev → Rs OV}
theorem dt_cm (h : Cm X c op g) (ha : DB X c a fa) (hb : DB X c b fb) (hm : behindInMarks op b = false := by first | exact nomark _ | with_unfolding_all rfl) : DT X c (.Compare a [op] [b] pos) (tstE (op2 g fa fb)) := by
  obtain ⟨r, h1, h2⟩ := h.ex
  exact dt_cmp h1 h2 ha hb hm
theorem dt_ch (h : Cm X c op g) (h' : Cm X c op' g') (ha : DB X c a fa) (hb : DB X c b fb) (hd : DB X c d fc) (hm : lastMarks [op, op'] [b, d] = false := by with_unfolding_all rfl) : DT X c (.Compare a [op, op'] [b, d] pos) (tstE (chainO g g' fa fb fc)) := by
  obtain ⟨r, h1, h2⟩ := h.ex
  obtain ⟨r', h3, h4⟩ := h'.ex
  exact dt_chain h1 h2 h3 h4 ha hb hd hm
/-- operators -/
theorem do_Add (hM : c.M = ⟨X.K, X.mg⟩) (ha : DB X c a fa) (hb : DB X c b fb) : DO X c (.BinOp a .Add b pos) (op2 gAdd fa fb) := do_op op_addA (by rw [hM]; exact o2_add) ha hb
theorem do_Sub (ha : DB X c a fa) (hb : DB X c b fb) : DO X c (.BinOp a .Sub b pos) (op2 gSub fa fb) := do_op op_sub o2_sub ha hb
theorem do_Mult (ha : DB X c a fa) (hb : DB X c b fb) : DO X c (.BinOp a .Mult b pos) (op2 gMul fa fb) := do_op op_mulA o2_mul ha hb
theorem do_Mod (ha : DB X c a fa) (hb : DB X c b fb) : DO X c (.BinOp a .Mod b pos) (op2 gMod fa fb) := do_op op_mod o2_mod ha hb
theorem do_FloorDiv (ha : DB X c a fa) (hb : DB X c b fb) : DO X c (.BinOp a .FloorDiv b pos) (op2 gFdv fa fb) := do_op op_fdivW o2_fdv ha hb
theorem do_Pow (ha : DB X c a fa) (hb : DB X c b fb) : DO X c (.BinOp a .Pow b pos) (op2 gPow fa fb) := do_op op_pow o2_pow ha hb
theorem do_USub (ha : DB X c a fa) : DO X c (.UnaryOp .USub a pos) (op1 gNeg fa) := do_un un_neg o1_neg ha
theorem do_Ix (hu : X.A.units + 65 < cLine) (hM : c.M = ⟨X.K, X.mg⟩) (ha : DB X c a fa) (hb : DB X c b fb) (hs : PlainIx b := by intro _ _; rfl) : DO X c (.Subscript a b pos) (op2 gIx fa fb) := do_ix (ix_A hu) (by rw [hM]; exact o2_ix) ha hb hs
end
section
variable {f : Ev → Rs (List OV)}
theorem do_len (hM : c.M = ⟨X.K, X.mg⟩) (hm : X.mg "len" = none) (ha : DA X c (e :: es) f) (hg : Gl X "len" := by rfl) (he : starEach (e :: es) X.env = (false, eval e X.env) :: starEach es X.env := by rfl) (hpl : (backTo pos (starEach es X.env)).any (·.1) = false := by rfl) : DO X c (.Call (.Name "len" p) (e :: es) [] pos) (opA (gA1 gLen) f) :=
  do_callB call_lenA (by rw [hM]; exact os_len) hm ha (hg := hg) (he := he) (hpl := hpl)
theorem do_int (hm : X.mg "int" = none) (ha : DA X c (e :: es) f) (hg : Gl X "int" := by rfl) (he : starEach (e :: es) X.env = (false, eval e X.env) :: starEach es X.env := by rfl) (hpl : (backTo pos (starEach es X.env)).any (·.1) = false := by rfl) : DO X c (.Call (.Name "int" p) (e :: es) [] pos) (opA (gA1 gInt) f) :=
  do_callTy call_intA os_int hm ha (hg := hg) (he := he) (hpl := hpl)
theorem do_list (hM : c.M = ⟨X.K, X.mg⟩) (hm : X.mg "list" = none) (ha : DA X c (e :: es) f) (hg : Gl X "list" := by rfl) (he : starEach (e :: es) X.env = (false, eval e X.env) :: starEach es X.env := by rfl) (hpl : (backTo pos (starEach es X.env)).any (·.1) = false := by rfl) : DO X c (.Call (.Name "list" p) (e :: es) [] pos) (opA (gA1 gList) f) :=
  do_callTy call_list_of (by rw [hM]; exact os_list) hm ha (hg := hg) (he := he) (hpl := hpl)
theorem do_tuple (hM : c.M = ⟨X.K, X.mg⟩) (hm : X.mg "tuple" = none) (ha : DA X c (e :: es) f) (hg : Gl X "tuple" := by rfl) (he : starEach (e :: es) X.env = (false, eval e X.env) :: starEach es X.env := by rfl) (hpl : (backTo pos (starEach es X.env)).any (·.1) = false := by rfl) : DO X c (.Call (.Name "tuple" p) (e :: es) [] pos) (opA (gA1 gTuple) f) :=
  do_callTy call_tuple_of (by rw [hM]; exact os_tuple) hm ha (hg := hg) (he := he) (hpl := hpl)
def min2 (i j : Int) : Int := if j < i then j else i
theorem do_min (hc : X.calm = true) (hm : X.mg "min" = none) (ha : DA X c (e :: es) f) (hg : Gl X "min" := by rfl) (he : starEach (e :: es) X.env = (false, eval e X.env) :: starEach es X.env := by rfl) (hpl : (backTo pos (starEach es X.env)).any (·.1) = false := by rfl) : DO X c (.Call (.Name "min" p) (e :: es) [] pos) (opA (gA2 (gI2 min2)) f) :=
  do_callB (call_min2 hc) (os_I2 (f := min2)) hm ha (hg := hg) (he := he) (hpl := hpl)
end
end
section
variable {P : Program} {w : World} {K : PySem.W.Frag} {mg : Str → Option Value} {base : Heap} {N : List Str} {qual : Str} {scope : Scope} {f : Addr} {cd : Value} {A : Around} {outer : List Env} {s : Shared} {H : Hp} {E : XK}
theorem tk_cx : Takes (cxOf (L2.CX P w) P w K mg base N qual scope f cd A outer s H E) (fun cls d _ H => E cls d H) := takes_of rfl rfl rfl rfl
theorem hp_cx : PassesOwn (model P w) (A.deeper (envOfC qual scope s.heap.objs.size f cd)) (envOfC qual scope s.heap.objs.size f cd) (cxOf (L2.CX P w) P w K mg base N qual scope f cd A outer s H E).xe := passes_of (X := cxOf (L2.CX P w) P w K mg base N qual scope f cd A outer s H E) rfl
end
end Nv
-- N17
namespace Nv
/-- shut, so that the kernel does not run it -/
noncomputable def shut {α : Type} (a : α) : α := Classical.choose (⟨a, rfl⟩ : ∃ b : α, b = a)
theorem shut_eq {α : Type} (a : α) : shut a = a := Classical.choose_spec (⟨a, rfl⟩ : ∃ b : α, b = a)
open PySem PySem.Spec PyProof.Rows L2
open Evl (Ex)
def fgO (vs : List Nat) : Out → Out
  | .nx Γ => .nx (wipeG Γ vs)
  | .bk Γ => .bk (wipeG Γ vs)
  | .ct Γ => .ct (wipeG Γ vs)
  | o => o
def fgS (vs : List Nat) (f : Ev → Out) : Ev → Out := fun Γ => fgO vs (f Γ)
theorem dss_fg {X : Cx} {c : Cf} {ss : List Stmt} {f : Ev → Out} {vs : List Nat} (h : DSs X c ss f) : DSs X c ss (fgS vs f) := by
  refine PSs.of h fun De σ H ⟨F, Γ, r, q⟩ => ⟨F, Γ, r, ?_⟩
  have go : ∀ {Γ' : Ev} {σ' : L2.St} {F' H' : Hp}, Rel c.M c.σ0 F' H' σ' Γ' → Ext (own σ Γ) F H (own σ' Γ') F' H' → Rel c.M c.σ0 F' H' σ' (wipeG Γ' vs) ∧ Ext (own σ Γ) F H (own σ' (wipeG Γ' vs)) F' H' := fun {Γ' σ' F' H'} r' e' => by
    refine ⟨rel_wipe (vs := []) (hs := vs) r' (fun i hi => by cases hi), e'.subA fun b z => ?_⟩
    obtain ⟨i, t, o, _, g1, g2⟩ := own_wipe (σ := σ') (vs := []) (hs := vs) (fun i hi => by cases hi) z
    exact ⟨i, t, o, g1, g2⟩
  unfold fgS at q
  cases hf : f Γ with
  | nx Γ' => rw [hf] at q; exact fun σ' F' H' r' e' => q σ' F' H' (go r' e').1 (go r' e').2
  | bk Γ' => rw [hf] at q; exact fun σ' F' H' r' e' => q σ' F' H' (go r' e').1 (go r' e').2
  | ct Γ' => rw [hf] at q; exact fun σ' F' H' r' e' => q σ' F' H' (go r' e').1 (go r' e').2
  | rt av Γ' => rw [hf] at q; exact q
  | ex n l Γ' => rw [hf] at q; exact q
  | bad => rw [hf] at q; exact q
theorem FldOk.nil {K : PySem.W.Frag} {mg : Str → Option Value} {f : Str} : FldOk ⟨K, mg⟩ f [] := fun n h => by cases h
theorem FldOk.cons {K : PySem.W.Frag} {mg : Str → Option Value} {f n : Str} {cs : List Str} {C : Addr} (m : mg n = some (.ref C)) (k : Cls K C) (a : NoAttr K C f) (t : FldOk ⟨K, mg⟩ f cs) : FldOk ⟨K, mg⟩ f (n :: cs) := fun x hx C' hC => by
  rcases List.mem_cons.mp hx with e | hx
  · subst e
    have hC' : mg x = some (.ref C') := hC
    rw [m] at hC'
    cases hC'
    exact ⟨k, a⟩
  · exact t x hx C' hC
theorem FldOk.skip {K : PySem.W.Frag} {mg : Str → Option Value} {f n : Str} {cs : List Str} (m : mg n = none) (t : FldOk ⟨K, mg⟩ f cs) : FldOk ⟨K, mg⟩ f (n :: cs) := fun x hx C' hC => by
  rcases List.mem_cons.mp hx with e | hx
  · subst e
    have hC' : mg x = some (.ref C') := hC
    rw [m] at hC'
    cases hC'
  · exact t x hx C' hC
/-- the law's promise, by numbers -/
def spLaw (K : PySem.W.Frag) : Sp := fun vs H Q _ => ∃ (a : Addr) (ns : List Int), vs = [.ref a] ∧ SqL K H a (ns.map V.int) ∧ ns.length ≤ 63 ∧ ∀ H', Q (.bl true) H'
theorem law_imp {K : PySem.W.Frag} {mg : Str → Option Value} {f : List AV → FR} (ht : ∀ ns : List Int, ns.length ≤ 63 → ∃ outs, f [.dat (.fz (ns.map D.int))] = .ok (.dat (.bl true)) outs) (vs : List V) (H : Hp) (Q : VK) (E : XK) (h : spLaw K vs H Q E) : spD ⟨K, mg⟩ 1 f vs H Q E := by
  obtain ⟨a, ns, rfl, hS, hl, k⟩ := h
  refine ⟨rfl, H, [.dat (.fz (ns.map D.int))], ⟨Evl.Ex.refl _, rfl, fun i s g h1 h2 => ?_, fun i j t o t' o' b h1 => ?_⟩, ?_⟩
  · cases i with
    | zero =>
      cases h1
      cases h2
      exact ⟨_, rfl, rep_fz.mpr ⟨a, _, rfl, hS, Reps.mkInts⟩⟩
    | succ i => cases h1
  · cases i with
    | zero => cases h1
    | succ i => cases h1
  · obtain ⟨outs, e⟩ := ht ns hl
    rw [e]
    intro F' H' v _ _ a
    have e := rep_bl.mp (show Rep (⟨K, mg⟩ : Md) F' (.bl true) v from a)
    subst e
    exact k H'
end Nv
-- N18
namespace Nv
open PySem PySem.Spec PyProof.Rows L2
section
variable {α β : Type}
theorem Rs.bind_ok {a : α} {Γ : Ev} {k : α → Ev → Rs β} : (Rs.ok a Γ).bind k = k a Γ := rfl
theorem Rs.bind_ex {n : Str} {l : List (Str × D)} {Γ : Ev} {k : α → Ev → Rs β} : (Rs.ex n l Γ).bind k = .ex n l Γ := rfl
theorem Rs.out_ok {a : α} {Γ : Ev} {k : α → Ev → Out} : (Rs.ok a Γ).out k = k a Γ := rfl
theorem Rs.out_ex {n : Str} {l : List (Str × D)} {Γ : Ev} {k : α → Ev → Out} : (Rs.ex n l Γ).out k = .ex n l Γ := rfl
theorem Out.seq_nx {Γ : Ev} {k : Ev → Out} : (Out.nx Γ).seq k = k Γ := rfl
theorem Out.seq_rt {av : AV} {Γ : Ev} {k : Ev → Out} : (Out.rt av Γ).seq k = .rt av Γ := rfl
theorem Out.seq_bk {Γ : Ev} {k : Ev → Out} : (Out.bk Γ).seq k = .bk Γ := rfl
theorem Out.seq_ct {Γ : Ev} {k : Ev → Out} : (Out.ct Γ).seq k = .ct Γ := rfl
theorem Out.seq_ex {n : Str} {l : List (Str × D)} {Γ : Ev} {k : Ev → Out} : (Out.ex n l Γ).seq k = .ex n l Γ := rfl
end
structure Pn where
  cells : List Int
  at_ : Int
  left : Int
def Pn.o (p : Pn) : O := .dct [(.str ("cells" : Str), .lst (p.cells.map .int)), (.str ("at" : Str), .int p.at_), (.str ("left" : Str), .int p.left)]
def Pn.d (p : Pn) : D := .dct [(.str ("cells" : Str), .lst (p.cells.map .int)), (.str ("at" : Str), .int p.at_), (.str ("left" : Str), .int p.left)]
theorem Pn.od (p : Pn) : p.o.d = p.d := rfl
theorem Pn.ix_left (p : Pn) : gIx p.d (.str ("left" : Str)) = some (.dat (.int p.left)) := rfl
theorem Pn.ix_at (p : Pn) : gIx p.d (.str ("at" : Str)) = some (.dat (.int p.at_)) := rfl
theorem Pn.ix_cells (p : Pn) : gIx p.d (.str ("cells" : Str)) = some (.dat (.lst (p.cells.map .int))) := rfl
theorem Pn.put_left (p : Pn) (x : Int) : gPut p.o (.str ("left" : Str)) (.int x) = some ({ p with left := x } : Pn).o := rfl
theorem Pn.put_at (p : Pn) (x : Int) : gPut p.o (.str ("at" : Str)) (.int x) = some ({ p with at_ := x } : Pn).o := rfl
theorem eqds_ints : ∀ l : List Int, D.eqds (l.map .int) = some 0
  | [] => rfl
  | a :: l => by rw [List.map_cons, D.eqds, eqds_ints l]; rfl
theorem ne_ints (l : List Int) : gNe (.lst (l.map .int)) (.lst []) = some (.dat (.bl (decide (l ≠ [])))) := by
  have h : (D.lst (l.map .int)).eqs = true := by unfold D.eqs D.eqd; rw [eqds_ints]; rfl
  unfold gNe
  rw [h]
  cases l with
  | nil => rfl
  | cons a l => rfl
section
variable {Γ : Ev} {f f1 f2 f3 fa fb fc fo : Ev → Rs AV} {b b1 b2 b3 : Ev → Rs OV} {d d1 d2 : Ev → Rs D} {as : Ev → Rs (List OV)} {t u : Ev → Rs Bool} {s s1 s2 : Ev → Out} {i j l n : Nat} {gd : TgF} {ps : Ev → Rs (List (D × D))} {x m : Str} {cs : List Str} {vs : List Nat} {dd dk dv : D} {o : O} {av a1 a2 a3 : AV} {ov o1 o2 o3 : OV} {os : List OV} {k : Bool} {lo hi : Option Int} {fl fh : Ev → Rs (Option Int)} {g g' : D → D → Option AV} {g1 : D → Option AV} {gl : List D → Option AV} {gm : List D → List D → Option (D × List D)} {gf : List AV → FR} {mk : List D → AV} {p : List D × List Nat} {items : List D} {dps : List (D × D)} {src : Ev → Rs (List D)} {srcp : Ev → Rs (List D × List Nat)}
theorem seqS_ap : seqS s1 s2 Γ = (s1 Γ).seq s2 := rfl
theorem nilS_ap : nilS Γ = .nx Γ := rfl
def kSet (i : Nat) (av : AV) (Γ : Ev) : Out := optS (setG Γ i av)
theorem kSet_ap : kSet i av Γ = optS (setG Γ i av) := rfl
theorem setS_ap : setS i f Γ = (f Γ).out (kSet i) := rfl
def kIf (s1 : Ev → Out) (s2 : Ev → Out) (k : Bool) (Γ : Ev) : Out := if k = true then s1 Γ else s2 Γ
theorem kIf_ap : kIf s1 s2 k Γ = if k = true then s1 Γ else s2 Γ := rfl
theorem ifS_ap : ifS t s1 s2 Γ = (t Γ).out (kIf s1 s2) := rfl
def kExpr  (av : AV) (Γ : Ev) : Out := .nx Γ
theorem kExpr_ap : kExpr av Γ = .nx Γ := rfl
theorem exprS_ap : exprS f Γ = (f Γ).out kExpr := rfl
def kRet  (av : AV) (Γ : Ev) : Out := .rt av Γ
theorem kRet_ap : kRet av Γ = .rt av Γ := rfl
theorem retS_ap : retS f Γ = (f Γ).out kRet := rfl
theorem retN_ap : retN Γ = .rt (.dat .non) Γ := rfl
def kOp2b (g : D → D → Option AV) (o1 : OV) (o2 : OV) (Γ : Ev) : Rs AV := op2R g o1 o2 Γ
theorem kOp2b_ap : kOp2b g o1 o2 Γ = op2R g o1 o2 Γ := rfl
def kOp2 (g : D → D → Option AV) (b2 : Ev → Rs OV) (o1 : OV) (Γ : Ev) : Rs AV := (b2 Γ).bind (kOp2b g o1)
theorem kOp2_ap : kOp2 g b2 o1 Γ = (b2 Γ).bind (kOp2b g o1) := rfl
theorem op2_ap : op2 g b1 b2 Γ = (b1 Γ).bind (kOp2 g b2) := rfl
def kOp1 (g1 : D → Option AV) (ov : OV) (Γ : Ev) : Rs AV := op1R g1 ov Γ
theorem kOp1_ap : kOp1 g1 ov Γ = op1R g1 ov Γ := rfl
theorem op1_ap : op1 g1 b1 Γ = (b1 Γ).bind (kOp1 g1) := rfl
def kOpA (gl : List D → Option AV) (os : List OV) (Γ : Ev) : Rs AV := opR gl os Γ
theorem kOpA_ap : kOpA gl os Γ = opR gl os Γ := rfl
theorem opA_ap : opA gl as Γ = (as Γ).bind (kOpA gl) := rfl
def kDatB  (dd : D) (Γ : Ev) : Rs OV := .ok (.dat dd) Γ
theorem kDatB_ap : kDatB dd Γ = .ok (.dat dd) Γ := rfl
theorem datB_ap : datB d Γ = (d Γ).bind kDatB := rfl
def kDatO  (dd : D) (Γ : Ev) : Rs AV := .ok (.dat dd) Γ
theorem kDatO_ap : kDatO dd Γ = .ok (.dat dd) Γ := rfl
theorem datO_ap : datO d Γ = (d Γ).bind kDatO := rfl
theorem cst_ap : cst dd Γ = .ok dd Γ := rfl
def kFrz  (av : AV) (Γ : Ev) : Rs D := .ok av.d Γ
theorem kFrz_ap : kFrz av Γ = .ok av.d Γ := rfl
theorem frzE_ap : frzE f Γ = (f Γ).bind kFrz := rfl
theorem nilA_ap : nilA Γ = .ok [] Γ := rfl
def kConsb (ov : OV) (os : List OV) (Γ : Ev) : Rs (List OV) := .ok (ov :: os) Γ
theorem kConsb_ap : kConsb ov os Γ = .ok (ov :: os) Γ := rfl
def kCons (as : Ev → Rs (List OV)) (ov : OV) (Γ : Ev) : Rs (List OV) := (as Γ).bind (kConsb ov)
theorem kCons_ap : kCons as ov Γ = (as Γ).bind (kConsb ov) := rfl
theorem consA_ap : consA b as Γ = (b Γ).bind (kCons as) := rfl
def kDisp (mk : List D → AV) (os : List OV) (Γ : Ev) : Rs AV := dispR mk os Γ
theorem kDisp_ap : kDisp mk os Γ = dispR mk os Γ := rfl
theorem tupE_ap : tupE as Γ = (as Γ).bind (kDisp fun ds => .dat (.tup ds)) := rfl
theorem lstE_ap : lstE as Γ = (as Γ).bind (kDisp fun ds => .own (.lst ds)) := rfl
def kTst  (av : AV) (Γ : Ev) : Rs Bool := (match av with | .dat (.bl b) => .ok b Γ | _ => .bad)
theorem kTst_ap : kTst av Γ = (match av with | .dat (.bl b) => .ok b Γ | _ => .bad) := rfl
theorem tstE_ap : tstE f Γ = (f Γ).bind kTst := rfl
def kAndT (u : Ev → Rs Bool) (k : Bool) (Γ : Ev) : Rs Bool := if k = true then u Γ else .ok false Γ
theorem kAndT_ap : kAndT u k Γ = if k = true then u Γ else .ok false Γ := rfl
theorem andT_ap : andT t u Γ = (t Γ).bind (kAndT u) := rfl
def kOrT (u : Ev → Rs Bool) (k : Bool) (Γ : Ev) : Rs Bool := if k = true then .ok true Γ else u Γ
theorem kOrT_ap : kOrT u k Γ = if k = true then .ok true Γ else u Γ := rfl
theorem orT_ap : orT t u Γ = (t Γ).bind (kOrT u) := rfl
def kNotT  (k : Bool) (Γ : Ev) : Rs Bool := .ok (!k) Γ
theorem kNotT_ap : kNotT k Γ = .ok (!k) Γ := rfl
theorem notT_ap : notT t Γ = (t Γ).bind kNotT := rfl
theorem yesT_ap : yesT Γ = .ok true Γ := rfl
def kAndO (f2 : Ev → Rs AV) (av : AV) (Γ : Ev) : Rs AV := (match av with | .dat (.bl true) => f2 Γ | .dat (.bl false) => .ok (.dat (.bl false)) Γ | _ => .bad)
theorem kAndO_ap {c : Bool} : kAndO f2 (.dat (.bl c)) Γ = if c = true then f2 Γ else .ok (.dat (.bl false)) Γ := by cases c <;> rfl
theorem andO_ap : andO f1 f2 Γ = (f1 Γ).bind (kAndO f2) := rfl
def kOrO (f2 : Ev → Rs AV) (av : AV) (Γ : Ev) : Rs AV := (match av with | .dat (.bl true) => .ok (.dat (.bl true)) Γ | .dat (.bl false) => f2 Γ | _ => .bad)
theorem kOrO_ap {c : Bool} : kOrO f2 (.dat (.bl c)) Γ = if c = true then .ok (.dat (.bl true)) Γ else f2 Γ := by cases c <;> rfl
theorem orO_ap : orO f1 f2 Γ = (f1 Γ).bind (kOrO f2) := rfl
def kNotO  (av : AV) (Γ : Ev) : Rs AV := (match av with | .dat (.bl c) => .ok (.dat (.bl (!c))) Γ | _ => .bad)
theorem kNotO_ap : kNotO av Γ = (match av with | .dat (.bl c) => .ok (.dat (.bl (!c))) Γ | _ => .bad) := rfl
theorem notO_ap : notO f Γ = (f Γ).bind kNotO := rfl
def kIfO (f1 : Ev → Rs AV) (f2 : Ev → Rs AV) (k : Bool) (Γ : Ev) : Rs AV := if k = true then f1 Γ else f2 Γ
theorem kIfO_ap : kIfO f1 f2 k Γ = if k = true then f1 Γ else f2 Γ := rfl
theorem ifO_ap : ifO t f1 f2 Γ = (t Γ).bind (kIfO f1 f2) := rfl
def kSl3 (ov : OV) (lo : Option Int) (hi : Option Int) (Γ : Ev) : Rs AV := op1R (gSl lo hi) ov Γ
theorem kSl3_ap : kSl3 ov lo hi Γ = op1R (gSl lo hi) ov Γ := rfl
def kSl2 (ov : OV) (fh : Ev → Rs (Option Int)) (lo : Option Int) (Γ : Ev) : Rs AV := (fh Γ).bind (kSl3 ov lo)
theorem kSl2_ap : kSl2 ov fh lo Γ = (fh Γ).bind (kSl3 ov lo) := rfl
def kSl1 (fl : Ev → Rs (Option Int)) (fh : Ev → Rs (Option Int)) (ov : OV) (Γ : Ev) : Rs AV := (fl Γ).bind (kSl2 ov fh)
theorem kSl1_ap : kSl1 fl fh ov Γ = (fl Γ).bind (kSl2 ov fh) := rfl
theorem sliceO_ap : sliceO b fl fh Γ = (b Γ).bind (kSl1 fl fh) := rfl
theorem noPart_ap : noPart Γ = .ok none Γ := rfl
def kPart  (av : AV) (Γ : Ev) : Rs (Option Int) := (match av with | .dat (.int i) => .ok (some i) Γ | _ => .bad)
theorem kPart_ap : kPart av Γ = (match av with | .dat (.int i) => .ok (some i) Γ | _ => .bad) := rfl
theorem partO_ap : partO f Γ = (f Γ).bind kPart := rfl
def kPut2 (i : Nat) (dd : D) (ov : OV) (Γ : Ev) : Out := optS (putR i ov dd Γ)
theorem kPut2_ap : kPut2 i dd ov Γ = optS (putR i ov dd Γ) := rfl
def kPut (i : Nat) (b : Ev → Rs OV) (dd : D) (Γ : Ev) : Out := if isOwn Γ i = true then (b Γ).out (kPut2 i dd) else .bad
theorem kPut_ap : kPut i b dd Γ = if isOwn Γ i = true then (b Γ).out (kPut2 i dd) else .bad := rfl
theorem putS_ap : putS i b d Γ = (d Γ).out (kPut i b) := rfl
def kCall (n : Nat) (gf : List AV → FR) (os : List OV) (Γ : Ev) : Rs AV := if os.length = n then callR gf os Γ else .bad
theorem kCall_ap : kCall n gf os Γ = if os.length = n then callR gf os Γ else .bad := rfl
theorem callO_ap : callO n gf as Γ = (as Γ).bind (kCall n gf) := rfl
def kAsg (gd : TgF) (dd : D) (Γ : Ev) : Out := optS (gd dd Γ)
theorem kAsg_ap : kAsg gd dd Γ = optS (gd dd Γ) := rfl
theorem asgS_ap : asgS gd d Γ = (d Γ).out (kAsg gd) := rfl
def kPar2b (i : Nat) (j : Nat) (a1 : AV) (a2 : AV) (Γ : Ev) : Out := optS ((setG Γ i a1).bind fun Γ3 => setG Γ3 j a2)
theorem kPar2b_ap : kPar2b i j a1 a2 Γ = optS ((setG Γ i a1).bind fun Γ3 => setG Γ3 j a2) := rfl
def kPar2 (i : Nat) (j : Nat) (f2 : Ev → Rs AV) (a1 : AV) (Γ : Ev) : Out := (f2 Γ).out (kPar2b i j a1)
theorem kPar2_ap : kPar2 i j f2 a1 Γ = (f2 Γ).out (kPar2b i j a1) := rfl
theorem par2_ap : par2 i j f1 f2 Γ = (f1 Γ).out (kPar2 i j f2) := rfl
def kPar3c (i : Nat) (j : Nat) (l : Nat) (a1 : AV) (a2 : AV) (a3 : AV) (Γ : Ev) : Out := optS ((setG Γ i a1).bind fun Γ4 => (setG Γ4 j a2).bind fun Γ5 => setG Γ5 l a3)
theorem kPar3c_ap : kPar3c i j l a1 a2 a3 Γ = optS ((setG Γ i a1).bind fun Γ4 => (setG Γ4 j a2).bind fun Γ5 => setG Γ5 l a3) := rfl
def kPar3b (i : Nat) (j : Nat) (l : Nat) (f3 : Ev → Rs AV) (a1 : AV) (a2 : AV) (Γ : Ev) : Out := (f3 Γ).out (kPar3c i j l a1 a2)
theorem kPar3b_ap : kPar3b i j l f3 a1 a2 Γ = (f3 Γ).out (kPar3c i j l a1 a2) := rfl
def kPar3 (i : Nat) (j : Nat) (l : Nat) (f2 : Ev → Rs AV) (f3 : Ev → Rs AV) (a1 : AV) (Γ : Ev) : Out := (f2 Γ).out (kPar3b i j l f3 a1)
theorem kPar3_ap : kPar3 i j l f2 f3 a1 Γ = (f2 Γ).out (kPar3b i j l f3 a1) := rfl
theorem par3_ap : par3 i j l f1 f2 f3 Γ = (f1 Γ).out (kPar3 i j l f2 f3) := rfl
theorem newE_ap : newE o Γ = .ok (.own o) Γ := rfl
def kDt2 (ov : OV) (dd : D) (Γ : Ev) : Rs AV := (match ov.get Γ with | some k => (match k.keyT with | some _ => .ok (.own (.dtt [(k, dd)])) Γ | none => .bad) | none => .bad)
theorem kDt2_ap : kDt2 ov dd Γ = (match ov.get Γ with | some k => (match k.keyT with | some _ => .ok (.own (.dtt [(k, dd)])) Γ | none => .bad) | none => .bad) := rfl
def kDt1 (d : Ev → Rs D) (ov : OV) (Γ : Ev) : Rs AV := (d Γ).bind (kDt2 ov)
theorem kDt1_ap : kDt1 d ov Γ = (d Γ).bind (kDt2 ov) := rfl
theorem dispTO_ap : dispTO b d Γ = (b Γ).bind (kDt1 d) := rfl
def kGet1b (o1 : OV) (o2 : OV) (Γ : Ev) : Rs AV := getR (fun r => r.getD .non) o1 o2 Γ
theorem kGet1b_ap : kGet1b o1 o2 Γ = getR (fun r => r.getD .non) o1 o2 Γ := rfl
def kGet1 (b2 : Ev → Rs OV) (o1 : OV) (Γ : Ev) : Rs AV := if (match o1.get Γ with | some d => isDct d | none => false) = true then (b2 Γ).bind (kGet1b o1) else .bad
theorem kGet1_ap : kGet1 b2 o1 Γ = if (match o1.get Γ with | some d => isDct d | none => false) = true then (b2 Γ).bind (kGet1b o1) else .bad := rfl
theorem get1O_ap : get1O b1 b2 Γ = (b1 Γ).bind (kGet1 b2) := rfl
def kGet2c (o1 : OV) (o2 : OV) (dd : D) (Γ : Ev) : Rs AV := getR (fun r => r.getD dd) o1 o2 Γ
theorem kGet2c_ap : kGet2c o1 o2 dd Γ = getR (fun r => r.getD dd) o1 o2 Γ := rfl
def kGet2b (d : Ev → Rs D) (o1 : OV) (o2 : OV) (Γ : Ev) : Rs AV := (d Γ).bind (kGet2c o1 o2)
theorem kGet2b_ap : kGet2b d o1 o2 Γ = (d Γ).bind (kGet2c o1 o2) := rfl
def kGet2 (b2 : Ev → Rs OV) (d : Ev → Rs D) (o1 : OV) (Γ : Ev) : Rs AV := if (match o1.get Γ with | some d => isDct d | none => false) = true then (b2 Γ).bind (kGet2b d o1) else .bad
theorem kGet2_ap : kGet2 b2 d o1 Γ = if (match o1.get Γ with | some d => isDct d | none => false) = true then (b2 Γ).bind (kGet2b d o1) else .bad := rfl
theorem get2O_ap : get2O b1 b2 d Γ = (b1 Γ).bind (kGet2 b2 d) := rfl
def kMut (i : Nat) (gm : List D → List D → Option (D × List D)) (os : List OV) (Γ : Ev) : Rs AV := mutR i gm os Γ
theorem kMut_ap : kMut i gm os Γ = mutR i gm os Γ := rfl
theorem mutL_ap : mutL i gm as Γ = if isLst Γ i = true then (as Γ).bind (kMut i gm) else .bad := rfl
def kFld (i : Nat) (x : Str) (cs : List Str) (dd : D) (Γ : Ev) : Out := optS (fldR i x cs dd Γ)
theorem kFld_ap : kFld i x cs dd Γ = optS (fldR i x cs dd Γ) := rfl
theorem fldS_ap : fldS i x cs d Γ = (d Γ).out (kFld i x cs) := rfl
def kJoin2 (o1 : OV) (o2 : OV) (Γ : Ev) : Rs AV := op2R gJoin o1 o2 Γ
theorem kJoin2_ap : kJoin2 o1 o2 Γ = op2R gJoin o1 o2 Γ := rfl
def kJoin (b2 : Ev → Rs OV) (o1 : OV) (Γ : Ev) : Rs AV := (match o1.get Γ with | some (.str _) => (b2 Γ).bind (kJoin2 o1) | _ => .bad)
theorem kJoin_ap : kJoin b2 o1 Γ = (match o1.get Γ with | some (.str _) => (b2 Γ).bind (kJoin2 o1) | _ => .bad) := rfl
theorem joinO_ap : joinO b1 b2 Γ = (b1 Γ).bind (kJoin b2) := rfl
theorem fgS_ap : fgS vs s Γ = fgO vs (s Γ) := rfl
def kFor (gd : TgF) (s : Ev → Out) (items : List D) (Γ : Ev) : Out := forL gd s items Γ
theorem kFor_ap : kFor gd s items Γ = forL gd s items Γ := rfl
theorem forS_ap : forS gd src s Γ = (src Γ).out (kFor gd s) := rfl
def kBare  (p : List D × List Nat) (Γ : Ev) : Rs (List D) := (match p.2 with | [] => .ok p.1 Γ | _ => .bad)
theorem kBare_ap : kBare p Γ = (match p.2 with | [] => .ok p.1 Γ | _ => .bad) := rfl
theorem bare_ap : bare srcp Γ = (srcp Γ).bind kBare := rfl
def kSeqI  (ov : OV) (Γ : Ev) : Rs (List D × List Nat) := (match itemsOV2 Γ ov with | some p => .ok p Γ | none => .bad)
theorem kSeqI_ap : kSeqI ov Γ = (match itemsOV2 Γ ov with | some p => .ok p Γ | none => .bad) := rfl
theorem seqI_ap : seqI b Γ = (b Γ).bind kSeqI := rfl
def kEnI  (os : List OV) (Γ : Ev) : Rs (List D × List Nat) := (match os with | [o] => (match itemsOV Γ o with | some p => .ok (enumD 0 p.1, p.2) Γ | none => .bad) | _ => .bad)
theorem kEnI_ap : kEnI os Γ = (match os with | [o] => (match itemsOV Γ o with | some p => .ok (enumD 0 p.1, p.2) Γ | none => .bad) | _ => .bad) := rfl
theorem enI_ap : enI as Γ = (as Γ).bind kEnI := rfl
def kRng1  (os : List OV) (Γ : Ev) : Rs (List D × List Nat) := (match gets Γ os with | some [.int j] => if rngOk j = true then .ok (rangeD 0 j.toNat, []) Γ else .bad | _ => .bad)
theorem kRng1_ap : kRng1 os Γ = (match gets Γ os with | some [.int j] => if rngOk j = true then .ok (rangeD 0 j.toNat, []) Γ else .bad | _ => .bad) := rfl
theorem rngI1_ap : rngI1 as Γ = (as Γ).bind kRng1 := rfl
def kRng2  (os : List OV) (Γ : Ev) : Rs (List D × List Nat) := (match gets Γ os with | some [.int i, .int j] => if rngOk i = true ∧ rngOk j = true then .ok (rangeD i (j - i).toNat, []) Γ else .bad | _ => .bad)
theorem kRng2_ap : kRng2 os Γ = (match gets Γ os with | some [.int i, .int j] => if rngOk i = true ∧ rngOk j = true then .ok (rangeD i (j - i).toNat, []) Γ else .bad | _ => .bad) := rfl
theorem rngI2_ap : rngI2 as Γ = (as Γ).bind kRng2 := rfl
def kComp (vs : List Nat) (gd : TgF) (t : Ev → Rs Bool) (d : Ev → Rs D) (p : List D × List Nat) (Γ : Ev) : Rs AV := (match compL (wipeG Γ (vs ++ p.2)) gd t d p.1 [] (wipeG Γ (vs ++ p.2)) with | some (acc, Γ2) => .ok (.own (.lst acc)) (unw Γ Γ2 (vs ++ p.2)) | none => .bad)
theorem kComp_ap : kComp vs gd t d p Γ = (match compL (wipeG Γ (vs ++ p.2)) gd t d p.1 [] (wipeG Γ (vs ++ p.2)) with | some (acc, Γ2) => .ok (.own (.lst acc)) (unw Γ Γ2 (vs ++ p.2)) | none => .bad) := rfl
theorem compO_ap : compO vs srcp gd t d Γ = (srcp Γ).bind (kComp vs gd t d) := rfl
def kMake (x : Str) (n : Nat) (gf : List AV → FR) (os : List OV) (Γ : Ev) : Rs AV := if os.length + 1 = n then makeR x gf os Γ else .bad
theorem kMake_ap : kMake x n gf os Γ = if os.length + 1 = n then makeR x gf os Γ else .bad := rfl
theorem makeO_ap : makeO x n gf as Γ = (as Γ).bind (kMake x n gf) := rfl
def kMeth2 (n : Nat) (gf : List AV → FR) (ov : OV) (os : List OV) (Γ : Ev) : Rs AV := if os.length + 1 = n then callR gf (ov :: os) Γ else .bad
theorem kMeth2_ap : kMeth2 n gf ov os Γ = if os.length + 1 = n then callR gf (ov :: os) Γ else .bad := rfl
def kMeth (x : Str) (m : Str) (n : Nat) (gf : List AV → FR) (as : Ev → Rs (List OV)) (ov : OV) (Γ : Ev) : Rs AV := if (match ov.get Γ with | some d => isIns x m d | none => false) = true then (as Γ).bind (kMeth2 n gf ov) else .bad
theorem kMeth_ap : kMeth x m n gf as ov Γ = if (match ov.get Γ with | some d => isIns x m d | none => false) = true then (as Γ).bind (kMeth2 n gf ov) else .bad := rfl
theorem methO_ap : methO x m n gf b as Γ = (b Γ).bind (kMeth x m n gf as) := rfl
def kDct  (dps : List (D × D)) (Γ : Ev) : Rs AV := if keysOk dps = true ∧ dps.length ≤ 15 then .ok (.own (.dct (merD [] dps))) Γ else .bad
theorem kDct_ap : kDct dps Γ = if keysOk dps = true ∧ dps.length ≤ 15 then .ok (.own (.dct (merD [] dps))) Γ else .bad := rfl
theorem dispO_ap : dispO ps Γ = (ps Γ).bind kDct := rfl
theorem prNil_ap : prNil Γ = .ok [] Γ := rfl
def kPr3 (dk : D) (dv : D) (dps : List (D × D)) (Γ : Ev) : Rs (List (D × D)) := .ok ((dk, dv) :: dps) Γ
theorem kPr3_ap : kPr3 dk dv dps Γ = .ok ((dk, dv) :: dps) Γ := rfl
def kPr2 (ps : Ev → Rs (List (D × D))) (dk : D) (dv : D) (Γ : Ev) : Rs (List (D × D)) := (ps Γ).bind (kPr3 dk dv)
theorem kPr2_ap : kPr2 ps dk dv Γ = (ps Γ).bind (kPr3 dk dv) := rfl
def kPr1 (d2 : Ev → Rs D) (ps : Ev → Rs (List (D × D))) (dk : D) (Γ : Ev) : Rs (List (D × D)) := (d2 Γ).bind (kPr2 ps dk)
theorem kPr1_ap : kPr1 d2 ps dk Γ = (d2 Γ).bind (kPr2 ps dk) := rfl
theorem prCons_ap : prCons d1 d2 ps Γ = (d1 Γ).bind (kPr1 d2 ps) := rfl
def kCh3 (g' : D → D → Option AV) (o2 : OV) (o3 : OV) (Γ : Ev) : Rs AV := op2R g' o2 o3 Γ
theorem kCh3_ap : kCh3 g' o2 o3 Γ = op2R g' o2 o3 Γ := rfl
def kCh2 (g : D → D → Option AV) (g' : D → D → Option AV) (b3 : Ev → Rs OV) (o1 : OV) (o2 : OV) (Γ : Ev) : Rs AV := (match g2 g o1 o2 Γ with | some (.dat (.bl true)) => (b3 Γ).bind (kCh3 g' o2) | some (.dat (.bl false)) => .ok (.dat (.bl false)) Γ | _ => .bad)
theorem kCh2_ap : kCh2 g g' b3 o1 o2 Γ = (match g2 g o1 o2 Γ with | some (.dat (.bl true)) => (b3 Γ).bind (kCh3 g' o2) | some (.dat (.bl false)) => .ok (.dat (.bl false)) Γ | _ => .bad) := rfl
def kCh1 (g : D → D → Option AV) (g' : D → D → Option AV) (b2 : Ev → Rs OV) (b3 : Ev → Rs OV) (o1 : OV) (Γ : Ev) : Rs AV := (b2 Γ).bind (kCh2 g g' b3 o1)
theorem kCh1_ap : kCh1 g g' b2 b3 o1 Γ = (b2 Γ).bind (kCh2 g g' b3 o1) := rfl
theorem chainO_ap : chainO g g' b1 b2 b3 Γ = (b1 Γ).bind (kCh1 g g' b2 b3) := rfl
theorem chain_m {b : Bool} {x y : Rs AV} : (match some (AV.dat (.bl b)) with
  | some (.dat (.bl true)) => x
  | some (.dat (.bl false)) => y
  | _ => .bad) = if b = true then x else y := by cases b <;> rfl
theorem avd_dat : (AV.dat dd).d = dd := rfl
theorem avd_own : (AV.own o).d = o.d := rfl
theorem od_lst {l : List D} : (O.lst l).d = .lst l := rfl
theorem od_dct {l : List (D × D)} : (O.dct l).d = .dct l := rfl
theorem od_dtt {l : List (D × D)} : (O.dtt l).d = .dtt l := rfl
theorem od_ins {l : List (Str × D)} : (O.ins x l).d = .ins x l := rfl
end
theorem add_int {i j : Int} : gAdd (.int i) (.int j) = some (.dat (.int (i + j))) := rfl
theorem add_str {x y : Str} : gAdd (.str x) (.str y) = if x.length + y.length ≤ sizeLine then some (.dat (.str (x ++ y))) else none := rfl
theorem add_lst {x y : List D} : gAdd (.lst x) (.lst y) = if x.length + y.length ≤ sizeLine then some (.own (.lst (x ++ y))) else none := rfl
theorem ix_lst {l : List D} {i : Int} : gIx (.lst l) (.int i) = (atI l i).map .dat := rfl
theorem ix_tup {l : List D} {i : Int} : gIx (.tup l) (.int i) = (atI l i).map .dat := rfl
theorem ix_fz {l : List D} {i : Int} : gIx (.fz l) (.int i) = (atI l i).map .dat := rfl
theorem atI_at {α : Type} {l : List α} {i : Int} {x : α} (h0 : 0 ≤ i) (h : l[i.toNat]? = some x) : atI l i = some x := by
  have hl : i.toNat < l.length := (List.getElem?_eq_some_iff.mp h).1
  unfold atI ixN
  rw [if_pos h0, if_pos (by omega)]
  exact h
theorem atI_nat {α : Type} {l : List α} {i : Nat} {x : α} (h : l[i]? = some x) : atI l (i : Int) = some x := atI_at (Int.natCast_nonneg _) (by rw [Int.toNat_natCast]; exact h)
theorem atI_map {α β : Type} {f : α → β} {l : List α} {i : Int} : atI (l.map f) i = (atI l i).map f := by
  unfold atI
  rw [List.length_map]
  cases ixN l.length i with
  | none => rfl
  | some j => exact List.getElem?_map
theorem mulOk_l {i j : Int} (h1 : -(2 ^ 64) < i) (h2 : i < 2 ^ 64) : mulOk i j = true := by
  unfold mulOk
  rw [decide_eq_true (show -(2 ^ 64) < i ∧ i < 2 ^ 64 from ⟨h1, h2⟩)]
  rfl
theorem mulOk_r {i j : Int} (h1 : -(2 ^ 64) < j) (h2 : j < 2 ^ 64) : mulOk i j = true := by
  unfold mulOk
  rw [decide_eq_true (show -(2 ^ 64) < j ∧ j < 2 ^ 64 from ⟨h1, h2⟩), Bool.or_true]
  rfl
theorem sl0 : (0 ≤ sizeLine) = True := eq_true (by decide)
theorem sl1 : (1 ≤ sizeLine) = True := eq_true (by decide)
theorem sl2 : (2 ≤ sizeLine) = True := eq_true (by decide)
theorem sl3 : (3 ≤ sizeLine) = True := eq_true (by decide)
theorem sl4 : (4 ≤ sizeLine) = True := eq_true (by decide)
theorem sl5 : (5 ≤ sizeLine) = True := eq_true (by decide)
theorem sl6 : (6 ≤ sizeLine) = True := eq_true (by decide)
theorem sl7 : (7 ≤ sizeLine) = True := eq_true (by decide)
theorem sl8 : (8 ≤ sizeLine) = True := eq_true (by decide)
def runFin (args : List AV) : Out → FR
  | .nx Γ => FR.mk (.dat .non) (outA 0 args Γ)
  | .rt av Γ => FR.mk av (outA 0 args Γ)
  | .ex n l Γ => FR.mkx n l (outA 0 args Γ)
  | _ => .bad
theorem runF_ap {m : Nat} {body : Ev → Out} {args : List AV} : runF m body args = runFin args (body (tagA 0 args ++ List.replicate (m - args.length) .un)) := rfl
theorem runFin_nx {args : List AV} {Γ : Ev} : runFin args (.nx Γ) = FR.mk (.dat .non) (outA 0 args Γ) := rfl
theorem runFin_rt {args : List AV} {av : AV} {Γ : Ev} : runFin args (.rt av Γ) = FR.mk av (outA 0 args Γ) := rfl
theorem fgO_nx {vs : List Nat} {Γ : Ev} : fgO vs (.nx Γ) = .nx (wipeG Γ vs) := rfl
theorem fgO_bk {vs : List Nat} {Γ : Ev} : fgO vs (.bk Γ) = .bk (wipeG Γ vs) := rfl
theorem fgO_ct {vs : List Nat} {Γ : Ev} : fgO vs (.ct Γ) = .ct (wipeG Γ vs) := rfl
theorem fgO_rt {vs : List Nat} {av : AV} {Γ : Ev} : fgO vs (.rt av Γ) = .rt av Γ := rfl
end Nv
-- N19
namespace Nv
open PySem PySem.Spec PyProof.Rows L2
section
variable {S ι : Type} {g : TgF} {f : Ev → Out}
/-- a for whose body always goes on -/
theorem forL_eq (emb : S → Ev) (e : ι → D) (next : S → ι → S) (I : List ι → S → Prop) (h : ∀ x xs s, I (x :: xs) s → (∃ Γ1, g (e x) (emb s) = some Γ1 ∧ f Γ1 = .nx (emb (next s x))) ∧ I xs (next s x)) :
    ∀ (xs : List ι) (s : S), I xs s → forL g f (xs.map e) (emb s) = .nx (emb (xs.foldl next s))
  | [], s, _ => rfl
  | x :: xs, s, hI => by
    obtain ⟨⟨Γ1, h1, h2⟩, h3⟩ := h x xs s hI
    rw [List.map_cons, forL, h1]
    dsimp only
    rw [h2]
    exact forL_eq emb e next I h xs (next s x) h3
/-- .. by what holds ahead of each turn -/
theorem forL_inv (e : ι → D) (R : List ι → Ev → Prop) (h : ∀ x xs Γ, R (x :: xs) Γ → ∃ Γ', (∃ Γ1, g (e x) Γ = some Γ1 ∧ (f Γ1 = .nx Γ' ∨ f Γ1 = .ct Γ')) ∧ R xs Γ') :
    ∀ (xs : List ι) (Γ : Ev), R xs Γ → ∃ Γ', forL g f (xs.map e) Γ = .nx Γ' ∧ R [] Γ'
  | [], Γ, hR => ⟨Γ, rfl, hR⟩
  | x :: xs, Γ, hR => by
    obtain ⟨Γ', ⟨Γ1, h1, h2⟩, h3⟩ := h x xs Γ hR
    obtain ⟨Γ'', h4, h5⟩ := forL_inv e R h xs Γ' h3
    refine ⟨Γ'', ?_, h5⟩
    rw [List.map_cons, forL, h1]
    dsimp only
    rcases h2 with h2 | h2 <;> rw [h2] <;> exact h4
/-- a for whose body may leave the def -/
inductive Stp (S : Type) where
  | go (s : S) | out (o : Out)
def Stp.o (emb : S → Ev) : Stp S → Out
  | .go s => .nx (emb s)
  | .out o => o
def compF (test : S → ι → Bool) (val : S → ι → D) (next : S → ι → S) : List ι → S → List D × S
  | [], s => ([], s)
  | x :: xs, s => let r := compF test val next xs (next s x); (if test s x = true then val s x :: r.1 else r.1, r.2)
theorem compL_eq {Γ0 : Ev} {t : Ev → Rs Bool} {fe : Ev → Rs D} (emb : S → Ev) (e : ι → D) (test : S → ι → Bool) (val : S → ι → D) (next : S → ι → S) (I : List ι → S → Prop)
    (h : ∀ x xs s, I (x :: xs) s → (∃ Γ1 Γ2, g (e x) (emb s) = some Γ1 ∧ t Γ1 = .ok (test s x) Γ2 ∧ (test s x = true → ∃ Γ3, fe Γ2 = .ok (val s x) Γ3 ∧ anchor Γ0 Γ3 = emb (next s x)) ∧ (test s x = false → anchor Γ0 Γ2 = emb (next s x))) ∧ I xs (next s x)) :
    ∀ (xs : List ι) (s : S) (acc : List D), I xs s → acc.length + xs.length ≤ sizeLine → compL Γ0 g t fe (xs.map e) acc (emb s) = some (acc ++ (compF test val next xs s).1, emb (compF test val next xs s).2)
  | [], s, acc, _, _ => by simp [compL, compF]
  | x :: xs, s, acc, hI, hl => by
    obtain ⟨⟨Γ1, Γ2, h1, h2, h3, h4⟩, h5⟩ := h x xs s hI
    rw [List.length_cons] at hl
    rw [List.map_cons, compL, h1]
    dsimp only
    rw [h2]
    cases ht : test s x with
    | true =>
      obtain ⟨Γ3, h6, h7⟩ := h3 ht
      dsimp only
      rw [h6]
      dsimp only
      rw [if_pos (by omega), h7, compL_eq emb e test val next I h xs (next s x) (acc ++ [val s x]) h5 (by rw [List.length_append, List.length_singleton]; omega)]
      simp [compF, ht]
    | false =>
      dsimp only
      rw [h4 ht, compL_eq emb e test val next I h xs (next s x) acc h5 (by omega)]
      simp [compF, ht]
/-- .. that hangs on no state -/
theorem compL_mf {Γ0 Γ : Ev} {t : Ev → Rs Bool} {fe : Ev → Rs D} (e : ι → D) (test : ι → Bool) (val : ι → D) (P : ι → Prop)
    (h : ∀ x, P x → ∃ Γ1 Γ2, g (e x) Γ = some Γ1 ∧ t Γ1 = .ok (test x) Γ2 ∧ (test x = true → ∃ Γ3, fe Γ2 = .ok (val x) Γ3 ∧ anchor Γ0 Γ3 = Γ) ∧ (test x = false → anchor Γ0 Γ2 = Γ)) :
    ∀ (xs : List ι), (∀ x ∈ xs, P x) → xs.length ≤ sizeLine → compL Γ0 g t fe (xs.map e) [] Γ = some ((xs.filter test).map val, Γ) := fun xs hP hl => by
  have q := compL_eq (S := Unit) (Γ0 := Γ0) (g := g) (t := t) (fe := fe) (fun _ => Γ) e (fun _ x => test x) (fun _ x => val x) (fun _ _ => ()) (fun l _ => ∀ x ∈ l, P x)
    (fun x xs s hI => ⟨h x (hI x List.mem_cons_self), fun y hy => hI y (List.mem_cons_of_mem _ hy)⟩) xs () [] hP (by simpa using hl)
  have e2 : ∀ l : List ι, (compF (fun (_ : Unit) x => test x) (fun _ x => val x) (fun _ _ => ()) l ()).1 = (l.filter test).map val := by
    intro l
    induction l with
    | nil => rfl
    | cons a l ih =>
      rw [compF]
      dsimp only
      rw [ih]
      cases ht : test a with
      | true => simp [ht]
      | false => simp [ht]
  rw [q, e2]
  simp
end
end Nv
-- N20
namespace Nv
open PySem PySem.Spec PyProof.Rows L2
abbrev Tx := List Nat
abbrev tD (l : Tx) : D := .str (SX.S l)
abbrev cD (c : Nat) : D := .str (SX.S [c])
section
variable {l a b : Tx} {i j c : Nat}
theorem S_length : (SX.S l).length = l.length := SX.S_len l
theorem S_app : SX.S a ++ SX.S b = SX.S (a ++ b) := SX.S_cat a b
theorem sIx_n {n d k : Nat} : HT.sIx n d (some (k : Int)) = min k n := HT.sIx_nat n d k
theorem drop_min {α : Type} {l : List α} {i : Nat} : l.drop (min i l.length) = l.drop i := by
  by_cases h : i ≤ l.length
  · rw [Nat.min_eq_left h]
  · rw [Nat.min_eq_right (by omega), List.drop_eq_nil_of_le (Nat.le_refl _), List.drop_eq_nil_of_le (by omega)]
theorem cutL_nn {α : Type} {l : List α} : cutL l (some (i : Int)) (some (j : Int)) = (l.drop i).take (j - i) := by
  unfold cutL
  rw [sIx_n, sIx_n, drop_min]
  by_cases h : i ≤ l.length
  · rw [Nat.min_eq_left h]
    by_cases h2 : j ≤ l.length
    · rw [Nat.min_eq_left h2]
    · rw [Nat.min_eq_right (by omega), List.take_of_length_le (by rw [List.length_drop]; omega), List.take_of_length_le (by rw [List.length_drop]; omega)]
  · rw [List.drop_eq_nil_of_le (by omega), List.take_nil, List.take_nil]
theorem cutL_0n {α : Type} {l : List α} : cutL l none (some (j : Int)) = l.take j := by
  unfold cutL
  rw [sIx_n, HT.sIx_none, List.drop_zero, Nat.sub_zero]
  by_cases h2 : j ≤ l.length
  · rw [Nat.min_eq_left h2]
  · rw [Nat.min_eq_right (by omega), List.take_of_length_le (Nat.le_refl _), List.take_of_length_le (by omega)]
theorem cutL_n0 {α : Type} {l : List α} : cutL l (some (i : Int)) none = l.drop i := by
  unfold cutL
  rw [sIx_n, HT.sIx_none, drop_min]
  by_cases h : i ≤ l.length
  · rw [Nat.min_eq_left h, List.take_of_length_le (by rw [List.length_drop]; omega)]
  · rw [List.drop_eq_nil_of_le (by omega), List.take_nil]
theorem cutS_S {lo hi : Option Int} : cutS (SX.S l) lo hi = SX.S (cutL l lo hi) := by
  unfold cutS cutL
  rw [S_length]
theorem len_S : gLen (tD l) = if l.length ≤ sizeLine then some (.dat (.int (l.length : Nat))) else none := by
  show (if (SX.S l).length ≤ sizeLine then some (AV.dat (D.int (SX.S l).length)) else none) = _
  rw [S_length]
theorem sl_S {lo hi : Option Int} : gSl lo hi (tD l) = if l.length ≤ sizeLine then some (.dat (tD (cutL l lo hi))) else none := by
  show (if (SX.S l).length ≤ sizeLine then some (AV.dat (D.str (cutS (SX.S l) lo hi))) else none) = _
  rw [S_length, cutS_S]
theorem ix_S {x : Int} : gIx (tD l) (.int x) = if l.length ≤ sizeLine then (atI l x).map fun c => .dat (cD c) else none := by
  show (if (SX.S l).length ≤ sizeLine then (atI (SX.S l).cps.toList x).map (fun c => AV.dat (D.str ⟨#[c]⟩)) else none) = _
  rw [S_length]
theorem ad_S : gAdd (tD a) (tD b) = if a.length + b.length ≤ sizeLine then some (.dat (tD (a ++ b))) else none := by
  rw [add_str, S_length, S_length, S_app]
theorem chD_S : chD (SX.S l) = l.map cD := rfl
theorem eq_S : D.eq (tD a) (tD b) = decide (a = b) := by
  show (SX.S a == SX.S b) = _
  exact SX.S_beq_eq
theorem eq_int {x y : Int} : D.eq (.int x) (.int y) = decide (x = y) := by
  show (x == y) = _
  exact Bool.beq_eq_decide_eq x y
theorem eq_bl {x y : Bool} : D.eq (.bl x) (.bl y) = decide (x = y) := by
  show (x == y) = _
  cases x <;> cases y <;> rfl
theorem gEq_S : gEq (tD a) (tD b) = some (.dat (.bl (decide (a = b)))) := by
  show (if (true && true) = true then some (AV.dat (D.bl (D.eq (tD a) (tD b)))) else none) = _
  rw [eq_S]
  rfl
theorem gNe_S : gNe (tD a) (tD b) = some (.dat (.bl (decide (a ≠ b)))) := by
  show (if (true && true) = true then some (AV.dat (D.bl (!D.eq (tD a) (tD b)))) else none) = _
  rw [eq_S, ← decide_not]
  rfl
theorem gEq_int {x y : Int} : gEq (.int x) (.int y) = some (.dat (.bl (decide (x = y)))) := by
  show (if (true && true) = true then some (AV.dat (D.bl (D.eq (.int x) (.int y)))) else none) = _
  rw [eq_int]
  rfl
theorem gNe_int {x y : Int} : gNe (.int x) (.int y) = some (.dat (.bl (decide (x ≠ y)))) := by
  show (if (true && true) = true then some (AV.dat (D.bl (!D.eq (.int x) (.int y)))) else none) = _
  rw [eq_int, ← decide_not]
  rfl
theorem gEq_bl {x y : Bool} : gEq (.bl x) (.bl y) = some (.dat (.bl (decide (x = y)))) := by
  show (if (true && true) = true then some (AV.dat (D.bl (D.eq (.bl x) (.bl y)))) else none) = _
  rw [eq_bl]
  rfl
theorem gNe_bl {x y : Bool} : gNe (.bl x) (.bl y) = some (.dat (.bl (decide (x ≠ y)))) := by
  show (if (true && true) = true then some (AV.dat (D.bl (!D.eq (.bl x) (.bl y)))) else none) = _
  rw [eq_bl, ← decide_not]
  rfl
theorem strsO_map : ∀ l : List Tx, strsO (l.map tD) = some (l.map SX.S)
  | [] => rfl
  | x :: l => by
    rw [List.map_cons, strsO, strsO_map l]
    rfl
theorem ofs_empty : Str.ofString "" = SX.S [] := rfl
/-- a sign in a text -/
theorem gIn_S : gIn (cD c) (tD l) = some (.dat (.bl (decide (c ∈ l)))) := rfl
theorem gNin_S : gNin (cD c) (tD l) = some (.dat (.bl (!decide (c ∈ l)))) := rfl
theorem len_lst {x : List D} : gLen (.lst x) = some (.dat (.int (x.length : Nat))) := rfl
theorem len_tup {x : List D} : gLen (.tup x) = some (.dat (.int (x.length : Nat))) := rfl
theorem len_fz {x : List D} : gLen (.fz x) = some (.dat (.int (x.length : Nat))) := rfl
end
section
variable {l : List D} {lo hi : Option Int}
theorem sl_lst : gSl lo hi (.lst l) = some (.own (.lst (cutL l lo hi))) := rfl
theorem sl_fz : gSl lo hi (.fz l) = some (.own (.lst (cutL l lo hi))) := rfl
theorem sl_tup : gSl lo hi (.tup l) = some (.dat (.tup (cutL l lo hi))) := rfl
end
end Nv
-- N21
namespace Nv
open PySem PySem.Spec PyProof.Rows L2
section
variable {κ ν : Type} [DecidableEq κ]
def aput (l : List (κ × ν)) (k : κ) (v : ν) : List (κ × ν) := if (l.any fun p => decide (p.1 = k)) = true then l.map (fun p => if p.1 = k then (p.1, v) else p) else l ++ [(k, v)]
def alook : List (κ × ν) → κ → Option ν
  | [], _ => none
  | p :: l, k => if p.1 = k then some p.2 else alook l k
def pD (kd : κ → D) (vd : ν → D) (p : κ × ν) : D × D := (kd p.1, vd p.2)
variable {kd : κ → D} {vd : ν → D}
theorem any_map (hk : ∀ a b, (kd a).eq (kd b) = decide (a = b)) (k : κ) : ∀ l : List (κ × ν), ((l.map (pD kd vd)).any fun p => p.1.eq (kd k)) = l.any fun p => decide (p.1 = k)
  | [] => rfl
  | p :: l => by
    rw [List.map_cons, List.any_cons, List.any_cons, any_map hk k l]
    show ((kd p.1).eq (kd k) || _) = _
    rw [hk]
end
/-- a place -/
abbrev Pl := Nat × Nat
section
variable {ν : Type} {vd : ν → D} {l : List (Pl × ν)} {p : Pl} {v : ν}
end
end Nv
-- N22
namespace Nv
open PySem PySem.Spec PyProof.Rows L2
theorem sl_eq : sizeLine = 16777216 := by decide
section
variable {a b : Nat} {i j : Int}
theorem nlt_t (h : a < b) : (a < b) = True := eq_true h
theorem nlt_f (h : ¬ a < b) : (a < b) = False := eq_false h
theorem nle_t (h : a ≤ b) : (a ≤ b) = True := eq_true h
theorem nle_f (h : ¬ a ≤ b) : (a ≤ b) = False := eq_false h
theorem neq_t (h : a = b) : (a = b) = True := eq_true h
theorem neq_f (h : ¬ a = b) : (a = b) = False := eq_false h
theorem ilt_t (h : i < j) : (i < j) = True := eq_true h
theorem ilt_f (h : ¬ i < j) : (i < j) = False := eq_false h
theorem ile_t (h : i ≤ j) : (i ≤ j) = True := eq_true h
theorem ile_f (h : ¬ i ≤ j) : (i ≤ j) = False := eq_false h
theorem ieq_t (h : i = j) : (i = j) = True := eq_true h
theorem ieq_f (h : ¬ i = j) : (i = j) = False := eq_false h
theorem rng_t (h1 : -4611686018427387904 ≤ i) (h2 : i < 4611686018427387904) : rngOk i = true := decide_eq_true ⟨by show -(2 ^ 62) ≤ i; omega, by show i < 2 ^ 62; omega⟩
theorem mul_l (h1 : -18446744073709551616 < i) (h2 : i < 18446744073709551616) : mulOk i j = true := mulOk_l (by omega) (by omega)
theorem mul_r (h1 : -18446744073709551616 < j) (h2 : j < 18446744073709551616) : mulOk i j = true := mulOk_r (by omega) (by omega)
theorem atI_n {α : Type} {l : List α} (h : 0 ≤ i) : atI l i = l[i.toNat]? := by
  unfold atI ixN
  rw [if_pos h]
  by_cases z : i < (l.length : Nat)
  · rw [if_pos z]; rfl
  · rw [if_neg z, List.getElem?_eq_none (by omega)]; rfl
theorem cut_ii {α : Type} {l : List α} (h1 : 0 ≤ i) (h2 : 0 ≤ j) : cutL l (some i) (some j) = (l.drop i.toNat).take (j.toNat - i.toNat) := by
  obtain ⟨m, rfl⟩ := Int.eq_ofNat_of_zero_le h1
  obtain ⟨n, rfl⟩ := Int.eq_ofNat_of_zero_le h2
  exact cutL_nn
theorem cut_0i {α : Type} {l : List α} (h2 : 0 ≤ j) : cutL l none (some j) = l.take j.toNat := by
  obtain ⟨n, rfl⟩ := Int.eq_ofNat_of_zero_le h2
  exact cutL_0n
theorem cut_i0 {α : Type} {l : List α} (h1 : 0 ≤ i) : cutL l (some i) none = l.drop i.toNat := by
  obtain ⟨m, rfl⟩ := Int.eq_ofNat_of_zero_le h1
  exact cutL_n0
theorem toNat_add (h1 : 0 ≤ i) (h2 : 0 ≤ j) : (i + j).toNat = i.toNat + j.toNat := Int.toNat_add h1 h2
end
theorem revS_S {l : Tx} : revS (SX.S l) = SX.S l.reverse := rfl
end Nv
-- N23
namespace Nv
open PySem PySem.Spec PyProof.Rows L2
section
variable {elt t0 i0 t1 i1 : Expr} {ifs0 ifs1 : List Expr} {gens : List Comprehension} {scope : Scope} {pos : Pos} {i : Nat}
theorem turn_mid (h : gens[i]? = some ⟨t0, i0, ifs0, 0⟩) (h2 : gens[i + 1]? = some ⟨t1, i1, ifs1, 0⟩) (it acc : Value) (env : Env) :
    compTurn (.ListComp elt gens scope pos) i it acc env = (do
      standAt i0.pos
      match ← pyNext it with
      | none => pure (.done .next)
      | some v =>
        letOwnedTupleGo t0 it v
        assign t0 env v
        let mut ok := true
        for c in ifs0 do
          if ok then ok ← isTrue c env (eval c env)
        if ok then
          let x ← eval i1 env
          standAt i1.pos
          let x ← foldedSetIterable i1 env x
          let _ ← runOwn (.compStart (.ListComp elt gens scope pos) (i + 1) (← holding [x] (pyIter x)) acc env) env
        again (.compLoop (.ListComp elt gens scope pos) i it acc env)) := by
  unfold compTurn
  simp only [h, h2]
  rfl
theorem turn_last (h : gens[i]? = some ⟨t0, i0, ifs0, 0⟩) (h2 : gens[i + 1]? = none) (it acc : Value) (env : Env) :
    compTurn (.ListComp elt gens scope pos) i it acc env = (do
      standAt i0.pos
      match ← pyNext it with
      | none => pure (.done .next)
      | some v =>
        letOwnedTupleGo t0 it v
        assign t0 env v
        let mut ok := true
        for c in ifs0 do
          if ok then ok ← isTrue c env (eval c env)
        if ok then
          (do let _ ← call (.builtin "list.append") [acc, ← eval elt env])
        again (.compLoop (.ListComp elt gens scope pos) i it acc env)) := by
  unfold compTurn
  simp only [h, h2]
  rfl
variable {prog : Program} {w : World} {A : Around} {R : Result → Shared → Prop} {s : Shared} {it acc : Value} {env : Env}
/-- a clause's loop with another one behind it -/
theorem loop_mid (h : gens[i]? = some ⟨t0, i0, ifs0, 0⟩) (h2 : gens[i + 1]? = some ⟨t1, i1, ifs1, 0⟩) (hs : ∀ x, foldedSetIterable i1 env x = pure x) (I : Nat → Shared → Prop)
    (turn : ∀ n s, I n s → wpAny (model prog w) A (pyNext it) (fun r s₁ => match r with
      | none => R (.ok .next) s₁
      | some v => wpAny (model prog w) A (letOwnedTupleGo t0 it v) (fun _ s₁' => wpAny (model prog w) A (assign t0 env v) (fun _ s₂ =>
          wpAny (model prog w) A (forIn ifs0 true fun c r => if r = true then do let ok ← isTrue c env (eval c env); pure (ForInStep.yield ok) else pure (ForInStep.yield r)) (fun ok s₃ =>
            if ok = true then wpAny (model prog w) A (eval i1 env) (fun x s₄ => wpAny (model prog w) A (pyIter x) (fun it1 s₅ =>
              codeAny (model prog w) A (.compStart (.ListComp elt gens scope pos) (i + 1) it1 acc env) (fun r s' => match r with
                | .ok _ => ∃ m, m < n ∧ I m s'
                | .error _ => False) s₅) (notedBy (model prog w) A env fun e s' => R (.error e) s') s₄) (notedBy (model prog w) A env fun e s' => R (.error e) s') s₃
            else ∃ m, m < n ∧ I m s₃) (notedBy (model prog w) A env fun e s' => R (.error e) s') s₂) (notedBy (model prog w) A env fun e s' => R (.error e) s') s₁') (notedBy (model prog w) A env fun e s' => R (.error e) s') s₁) (notedBy (model prog w) A env fun e s' => R (.error e) s') s)
    (n : Nat) (hI : I n s) :
    codeAny (model prog w) A (.compLoop (.ListComp elt gens scope pos) i it acc env) R s := by
  refine codeAny_loop rfl I (fun n s hI => ?_) n hI
  show wpAny _ A ((compTurn (.ListComp elt gens scope pos) i it acc env).onRaise (fun x => do noteFrame x env; theTreesLotGoes x)) _ _ s
  refine wpAny_noted ?_
  rw [turn_mid h h2]
  refine wpAny_bind (wpAny_standAt (wpAny_bind (wpAny_mono (turn n s hI) (fun r s₁ h₁ => ?_) fun _ _ h' => h')))
  cases r with
  | none => exact wpAny_pure h₁
  | some v =>
    refine wpAny_bind (wpAny_mono h₁ (fun _ s₁' h₁' => ?_) fun _ _ h' => h')
    refine wpAny_bind (wpAny_mono h₁' (fun _ s₂ h₂ => wpAny_bind (wpAny_mono h₂ (fun ok s₃ h₃ => ?_) fun _ _ h' => h')) fun _ _ h' => h')
    cases ok with
    | false => exact wpAny_pure ⟨rfl, h₃⟩
    | true =>
      refine wpAny_bind (wpAny_mono h₃ (fun x s₄ h₄ => ?_) fun _ _ h' => h')
      refine wpAny_bind (wpAny_standAt (wpAny_bind (wpAny_of_eq (hs x) (wpAny_bind (wpAny_holding (wpAny_mono h₄ (fun it1 s₅ h₅ => ?_) fun _ _ h' => h'))))))
      refine wpAny_bind (wpAny_runOwn ?_)
      rw [Around.mark_none]
      refine codeAny_mono h₅ fun r s' hr => ?_
      cases r with
      | ok f =>
        first
          | exact wpAny_pure ⟨rfl, hr⟩
          | exact wpAny_bind (wpAny_pure (wpAny_pure ⟨rfl, hr⟩))
      | error e => exact hr.elim
/-- the last clause's loop -/
theorem loop_last (h : gens[i]? = some ⟨t0, i0, ifs0, 0⟩) (h2 : gens[i + 1]? = none) (I : Nat → Shared → Prop)
    (turn : ∀ n s, I n s → wpAny (model prog w) A (pyNext it) (fun r s₁ => match r with
      | none => R (.ok .next) s₁
      | some v => wpAny (model prog w) A (letOwnedTupleGo t0 it v) (fun _ s₁' => wpAny (model prog w) A (assign t0 env v) (fun _ s₂ =>
          wpAny (model prog w) A (forIn ifs0 true fun c r => if r = true then do let ok ← isTrue c env (eval c env); pure (ForInStep.yield ok) else pure (ForInStep.yield r)) (fun ok s₃ =>
            if ok = true then wpAny (model prog w) A (eval elt env) (fun x s₄ =>
              wpAny (model prog w) A (call (.builtin "list.append") [acc, x]) (fun _ s₅ => ∃ m, m < n ∧ I m s₅) (notedBy (model prog w) A env fun e s' => R (.error e) s') s₄) (notedBy (model prog w) A env fun e s' => R (.error e) s') s₃
            else ∃ m, m < n ∧ I m s₃) (notedBy (model prog w) A env fun e s' => R (.error e) s') s₂) (notedBy (model prog w) A env fun e s' => R (.error e) s') s₁') (notedBy (model prog w) A env fun e s' => R (.error e) s') s₁) (notedBy (model prog w) A env fun e s' => R (.error e) s') s)
    (n : Nat) (hI : I n s) :
    codeAny (model prog w) A (.compLoop (.ListComp elt gens scope pos) i it acc env) R s := by
  refine codeAny_loop rfl I (fun n s hI => ?_) n hI
  show wpAny _ A ((compTurn (.ListComp elt gens scope pos) i it acc env).onRaise (fun x => do noteFrame x env; theTreesLotGoes x)) _ _ s
  refine wpAny_noted ?_
  rw [turn_last h h2]
  refine wpAny_bind (wpAny_standAt (wpAny_bind (wpAny_mono (turn n s hI) (fun r s₁ h₁ => ?_) fun _ _ h' => h')))
  cases r with
  | none => exact wpAny_pure h₁
  | some v =>
    refine wpAny_bind (wpAny_mono h₁ (fun _ s₁' h₁' => ?_) fun _ _ h' => h')
    refine wpAny_bind (wpAny_mono h₁' (fun _ s₂ h₂ => wpAny_bind (wpAny_mono h₂ (fun ok s₃ h₃ => ?_) fun _ _ h' => h')) fun _ _ h' => h')
    cases ok with
    | false => exact wpAny_pure ⟨rfl, h₃⟩
    | true =>
      exact wpAny_bind (wpAny_bind (wpAny_mono h₃ (fun x s₄ h₄ => wpAny_bind (wpAny_mono h₄ (fun _ s₅ h₅ => wpAny_pure (wpAny_pure ⟨rfl, h₅⟩)) fun _ _ h' => h')) fun _ _ h' => h'))
/-- a clause's start -/
theorem start_ok (h : gens[i]? = some ⟨t0, i0, ifs0, 0⟩) (h0 : codeAny (model prog w) A (.compLoop (.ListComp elt gens scope pos) i it acc env) R s)
    (h1 : wpAny (model prog w) A (pyIter it) (fun it' s' => codeAny (model prog w) A (.compLoop (.ListComp elt gens scope pos) i it' acc env) R s')
      (notedBy (model prog w) A env fun x s' => R (.error x) s') s) :
    codeAny (model prog w) A (.compStart (.ListComp elt gens scope pos) i it acc env) R s := by
  refine codeAny_of_tree ?_
  show wpAny _ _ ((compStart (.ListComp elt gens scope pos) i it acc env).onRaise (fun x => do noteFrame x env; standAt theWindowsPlace)) _ _ s
  refine wpAny_notedAt ?_
  have hcl : (clausesOf (.ListComp elt gens scope pos))[i]? = some ⟨t0, i0, ifs0, 0⟩ := h
  unfold compStart
  simp only [hcl]
  show wpAny _ _ (ask >>= _) _ _ s
  refine wpAny_bind (wpAny_askSetting (wpAny_ite ?_))
  split
  · first
      | exact wpAny_bind (wpAny_pure (wpAny_pure (And.intro rfl h0)))
      | exact wpAny_pure (And.intro rfl h0)
  · first
      | exact wpAny_bind (wpAny_rule (wpAny_bind (wpAny_standAt (wpAny_bind (wpAny_mono h1 (fun it' s' h' => wpAny_pure (And.intro rfl h')) fun _ _ x => x)))))
      | (refine wpAny_bind (wpAny_rule ?_); show wpAny _ _ (standAt i0.pos >>= _) _ _ s; exact wpAny_bind (wpAny_standAt (wpAny_bind (wpAny_mono h1 (fun it' s' h' => wpAny_pure (And.intro rfl h')) fun _ _ x => x))))
end
end Nv
-- N24
namespace Nv
open PySem PySem.Spec PyProof.Rows L2
/-- a clause behind the first one, by its readings; the names of its target -/
structure Cl where
  wi : TI
  g : TG
  tt : TT
  vs : List Nat
/-- what the inner clauses and the item are to do; D the new list -/
def tBody (te : TE) (D : Addr) : List Cl → L2.St → Hp → (Hp → Prop) → Prop
  | [] => fun σ H Nx => te σ H fun y H' => ∃ acc, H' D = some (.lst acc) ∧ acc.length < sizeLine ∧ Nx (upd H' D (.lst (acc ++ [y])))
  | c :: cs => fun σ H Nx => c.wi σ H fun J H1 => ∃ W : Nat → Nat → Hp → Prop, (∃ m, W 0 m H1) ∧ ∀ j k H, W j k H →
      (J.stop j H ∧ Nx H) ∨ (J.go j H ∧ ∃ Nx1 : Hp → Prop, (∀ H', Nx1 H' → ∃ k', k' < k ∧ W (j + 1) k' H') ∧ ∀ x H', J.yld j H x H' → c.g x (L2.wipe σ c.vs) H' fun σ3 H5 => L2.wipe σ3 c.vs = L2.wipe σ c.vs ∧ c.tt σ3 H5 fun b H6 =>
        if b = true then tBody te D cs σ3 H6 Nx1 else Nx1 H6)
inductive CJs (Y : Cx) : List Nat → List Comprehension → List Cl → Prop where
  | nil {all : List Nat} : CJs Y all [] []
  | cons {all : List Nat} {tg iter : Expr} {ifs : List Expr} {c : Cl} {gs : List Comprehension} {cs : List Cl} (hi : PI Y tg iter c.wi) (hg : PG Y tg c.g) (ht : PTs Y ifs c.tt) (hv : ∀ j ∈ c.vs, j ∈ all)
      (hs : ∀ x, foldedSetIterable iter Y.env x = pure x) (r : CJs Y c.vs gs cs) : CJs Y all (⟨tg, iter, ifs, 0⟩ :: gs) (c :: cs)
/-- a clause's loop: from the slots τ; Nx is reached at its end -/
theorem comp_loop {Y : Cx} (hc : Y.calm = true) (hx : Y.xe = fun _ _ => False) {elt : Expr} {gens : List Comprehension} {scope : Scope} {pos : Pos} {te : TE} (pe : PE Y elt te) (D : Addr) :
    ∀ (cs : List Cl) (i : Nat) (tg iter : Expr) (ifs : List Expr) (g : TG) (tt : TT) (vs : List Nat), gens[i]? = some ⟨tg, iter, ifs, 0⟩ → CJs Y vs (gens.drop (i + 1)) cs → PG Y tg g → PTs Y ifs tt →
    ∀ (pins : List (Addr × Obj)) (τ : L2.St) (it : Addr) (fp : List Addr) (tn : Nat → Heap → Prop) (J : It) (T : Turn Y.prog Y.w Y.K tg J fp it tn) (W : Nat → Nat → Hp → Prop) (Nx : Hp → Prop) (R : Result → Shared → Prop)
      (turn : ∀ j k H, W j k H → (J.stop j H ∧ Nx H) ∨ (J.go j H ∧ ∃ Nx1 : Hp → Prop, (∀ H', Nx1 H' → ∃ k', k' < k ∧ W (j + 1) k' H') ∧ ∀ x H', J.yld j H x H' → g x τ H' fun σ3 H5 => L2.wipe σ3 vs = τ ∧ tt σ3 H5 fun b H6 =>
        if b = true then tBody te D cs σ3 H6 Nx1 else Nx1 H6))
      (fpok : ∀ {σ' : L2.St} {H' : Hp} {s' : Shared}, Inv Y pins σ' H' s' → (∀ b ∈ fp, H' b = none) → ∀ b ∈ fp, FpOk Y pins H' b)
      (hR : ∀ s' H', Inv Y pins τ H' s' → Nx H' → R (.ok .next) s')
      (m0 : Nat) (s : Shared) (H : Hp), Inv Y pins τ H s → tn 0 s.heap → (∀ b ∈ fp, H b = none) → W 0 m0 H →
    codeAny (model Y.prog Y.w) Y.A (.compLoop (.ListComp elt gens scope pos) i (.ref it) (.ref D) Y.env) R s
  | [], i, tg, iter, ifs, g, tt, vs, hi, hcs, pg, pt, pins, τ, it, fp, tn, J, T, W, Nx, R, turn, fpok, hR, m0, s, H, I, st, nfp, w0 => by
    have h2 : gens[i + 1]? = none := by
      generalize hd : gens.drop (i + 1) = r at hcs
      cases hcs
      exact List.getElem?_eq_none (List.drop_eq_nil_iff.mp hd)
    refine loop_last hi h2 (fun n s' => ∃ j H', Inv Y pins τ H' s' ∧ tn j s'.heap ∧ (∀ b ∈ fp, H' b = none) ∧ W j n H') ?_ m0 ⟨0, H, I, st, nfp, w0⟩
    rintro k s12 ⟨j, H12, I12, st12, n12, w12⟩
    rcases turn j k H12 w12 with ⟨stop1, nx1⟩ | ⟨go1, Nx1, hNx1, step1⟩
    · refine thnF (T.done Y rfl rfl rfl hc j _ s12 τ H12 (fun _ _ => False) I12 (fpok I12 n12) st12 stop1) fun r s13 ⟨hr, I13⟩ => ?_
      subst hr
      exact hR s13 H12 I13 nx1
    · refine thnF (T.item Y rfl rfl rfl hc j _ s12 τ H12 (fun _ _ => False) I12 (fpok I12 n12) st12 go1) fun r s13 ⟨u1, hr, h13⟩ => ?_
      subst hr
      refine thnF h13 fun _ s14 ⟨x1, H14, I14, r14, y14, st14, n14⟩ => ?_
      have I14' := I14.pinned (fpok I14 n14) (T.obj _ _ st14)
      have pgr := pg.run _ s14 τ H14 x1 u1 _ I14' r14 (step1 x1 H14 y14)
      rw [hx] at pgr
      refine thnF pgr fun _ s15 ⟨σ15, H15, I15, hw15, q15⟩ => ?_
      have ptr := pt.run _ s15 σ15 H15 _ I15 q15
      rw [hx] at ptr
      refine thnF ptr fun b1 s16 ⟨H16, I16, q16⟩ => ?_
      have fin1 : ∀ {s' : Shared} {H' : Hp}, Inv Y (pins ++ pinsAt fp s14.heap) σ15 H' s' → Nx1 H' → ∃ m, m < k ∧ ∃ j H', Inv Y pins τ H' s' ∧ tn j s'.heap ∧ (∀ b ∈ fp, H' b = none) ∧ W j m H' := fun {s' H'} I' nx => by
        obtain ⟨m', hm, w'⟩ := hNx1 H' nx
        have pin' : ∀ b ∈ fp, ∀ o, s14.heap.get? b = some o → s'.heap.get? b = some o ∧ H' b = none := fun b hb o e =>
          let z := I'.pin (b, o) (List.mem_append_right _ (List.mem_append_right _ (mem_pinsAt hb e)))
          ⟨z.1, z.2.1⟩
        refine ⟨m', hm, j + 1, H', I'.unpinned.weak (by rw [← hw15, wipe_length]) (fun j v e => by rw [← hw15] at e; exact (wipe_some e).1), T.keep _ _ _ st14 fun b hb o e => (pin' b hb o e).1, fun b hb => ?_, w'⟩
        obtain ⟨o, e, _⟩ := T.obj _ _ st14 b hb
        exact (pin' b hb o e).2
      cases b1 with
      | false =>
        simp only [Bool.false_eq_true, if_false] at q16 ⊢
        exact fin1 I16 q16
      | true =>
        simp only [if_true] at q16 ⊢
        have per := pe.run _ s16 σ15 H16 _ I16 q16
        rw [hx] at per
        refine thnF per fun z s17 ⟨yv, H17, I17, r17, acc, hD17, hz17, nx⟩ => ?_
        exact app_ok (X := Y) I17 hD17 hz17 r17 fun s18 I18 => fin1 I18 nx
  | c :: cs, i, tg, iter, ifs, g, tt, vs, hi, hcs, pg, pt, pins, τ, it, fp, tn, J, T, W, Nx, R, turn, fpok, hR, m0, s, H, I, st, nfp, w0 => by
    generalize hd : gens.drop (i + 1) = r at hcs
    cases hcs with
    | @cons _ tg1 iter1 ifs1 _ gs _ hi1 hg1 ht1 hv1 hs1 rest =>
    have h2 : gens[i + 1]? = some ⟨tg1, iter1, ifs1, 0⟩ := by
      have := congrArg (fun l => l[0]?) hd
      simpa using this
    have hd2 : gens.drop (i + 1 + 1) = gs := by
      have := congrArg (List.drop 1) hd
      rw [List.drop_drop] at this
      simpa using this
    rw [← hd2] at rest
    refine loop_mid hi h2 hs1 (fun n s' => ∃ j H', Inv Y pins τ H' s' ∧ tn j s'.heap ∧ (∀ b ∈ fp, H' b = none) ∧ W j n H') ?_ m0 ⟨0, H, I, st, nfp, w0⟩
    rintro k s12 ⟨j, H12, I12, st12, n12, w12⟩
    rcases turn j k H12 w12 with ⟨stop1, nx1⟩ | ⟨go1, Nx1, hNx1, step1⟩
    · refine thnF (T.done Y rfl rfl rfl hc j _ s12 τ H12 (fun _ _ => False) I12 (fpok I12 n12) st12 stop1) fun r s13 ⟨hr, I13⟩ => ?_
      subst hr
      exact hR s13 H12 I13 nx1
    · refine thnF (T.item Y rfl rfl rfl hc j _ s12 τ H12 (fun _ _ => False) I12 (fpok I12 n12) st12 go1) fun r s13 ⟨u1, hr, h13⟩ => ?_
      subst hr
      refine thnF h13 fun _ s14 ⟨x1, H14, I14, r14, y14, st14, n14⟩ => ?_
      have I14' := I14.pinned (fpok I14 n14) (T.obj _ _ st14)
      have pgr := pg.run _ s14 τ H14 x1 u1 _ I14' r14 (step1 x1 H14 y14)
      rw [hx] at pgr
      refine thnF pgr fun _ s15 ⟨σ15, H15, I15, hw15, q15⟩ => ?_
      have ptr := pt.run _ s15 σ15 H15 _ I15 q15
      rw [hx] at ptr
      refine thnF ptr fun b1 s16 ⟨H16, I16, q16⟩ => ?_
      have fin1 : ∀ {σ9 : L2.St} {s' : Shared} {H' : Hp}, Inv Y (pins ++ pinsAt fp s14.heap) σ9 H' s' → τ.length = σ9.length → (∀ (j : Nat) v, τ[j]? = some (some v) → σ9[j]? = some (some v)) → Nx1 H' →
          ∃ m, m < k ∧ ∃ j H', Inv Y pins τ H' s' ∧ tn j s'.heap ∧ (∀ b ∈ fp, H' b = none) ∧ W j m H' := fun {σ9 s' H'} I' hl hk nx => by
        obtain ⟨m', hm, w'⟩ := hNx1 H' nx
        have pin' : ∀ b ∈ fp, ∀ o, s14.heap.get? b = some o → s'.heap.get? b = some o ∧ H' b = none := fun b hb o e =>
          let z := I'.pin (b, o) (List.mem_append_right _ (List.mem_append_right _ (mem_pinsAt hb e)))
          ⟨z.1, z.2.1⟩
        refine ⟨m', hm, j + 1, H', I'.unpinned.weak hl hk, T.keep _ _ _ st14 fun b hb o e => (pin' b hb o e).1, fun b hb => ?_, w'⟩
        obtain ⟨o, e, _⟩ := T.obj _ _ st14 b hb
        exact (pin' b hb o e).2
      have hl8 : τ.length = σ15.length := by rw [← hw15, wipe_length]
      have hk8 : ∀ (j : Nat) v, τ[j]? = some (some v) → σ15[j]? = some (some v) := fun j v e => by
        rw [← hw15] at e
        exact (wipe_some e).1
      have hk9 : ∀ (j : Nat) v, τ[j]? = some (some v) → (L2.wipe σ15 c.vs)[j]? = some (some v) := fun j v e => by
        rw [← hw15] at e
        obtain ⟨e1, e2⟩ := wipe_some e
        rw [wipe_out fun z => e2 (hv1 j z)]
        exact e1
      cases b1 with
      | false =>
        simp only [Bool.false_eq_true, if_false] at q16 ⊢
        exact fin1 I16 hl8 hk8 q16
      | true =>
        simp only [if_true] at q16 ⊢
        have pir := hi1.run _ s16 σ15 H16 _ I16 q16
        rw [hx] at pir
        refine thnF pir fun xv s10 hxv => thnF hxv fun itv s11 h11 => ?_
        obtain ⟨it1, fp1, tn1, J1, H11, e1, I11, T1, st11, f11, W1, ⟨m1, w1⟩, turn1⟩ := h11
        subst e1
        have loop1 : codeAny (model Y.prog Y.w) Y.A (.compLoop (.ListComp elt gens scope pos) (i + 1) (.ref it1) (.ref D) Y.env)
            (fun r s' => match r with
              | .ok _ => ∃ m, m < k ∧ ∃ j H', Inv Y pins τ H' s' ∧ tn j s'.heap ∧ (∀ b ∈ fp, H' b = none) ∧ W j m H'
              | .error _ => False) s11 :=
          comp_loop hc hx pe D cs (i + 1) tg1 iter1 ifs1 c.g c.tt c.vs h2 rest hg1 ht1 (pins ++ pinsAt fp s14.heap) (L2.wipe σ15 c.vs) it1 fp1 tn1 J1 T1 W1 Nx1 _ turn1
            (fun {σ' H' s'} _ hn b hb => ⟨hn b hb, (f11 b hb).2⟩)
            (fun s' H' I' nx => fin1 I' (hl8.trans (wipe_length σ15 c.vs).symm) hk9 nx)
            m1 s11 H11 (I11.weak (wipe_length _ _) (fun j v e => (wipe_some e).1)) st11 (fun b hb => (f11 b hb).1) w1
        exact start_ok h2 loop1 (T1.self Y.A 0 _ _ _ st11 loop1)
/-- [elt for tg in iter if .. for .. in ..]: D the new list -/
def tLcN (wi : TI) (g : TG) (tt : TT) (cs : List Cl) (te : TE) (vs : List Nat) : TE := fun σ H Q => wi σ H fun J H1 => ∀ D, H1 D = none → ∃ W : Nat → Nat → Hp → Prop, (∃ m, W 0 m (upd H1 D (.lst []))) ∧ ∀ i m H, W i m H →
  (J.stop i H ∧ Q (.ref D) H) ∨ (J.go i H ∧ ∃ Nx : Hp → Prop, (∀ H', Nx H' → ∃ m', m' < m ∧ W (i + 1) m' H') ∧ ∀ x H', J.yld i H x H' → g x (L2.wipe σ vs) H' fun σ2 H2 => L2.wipe σ2 vs = L2.wipe σ vs ∧ tt σ2 H2 fun b H3 =>
    if b = true then tBody te D cs σ2 H3 Nx else Nx H3)
section
variable {X : Cx}
theorem lcN_core {pins : List (Addr × Obj)} {s : Shared} {σ : L2.St} {H : Hp} {Q : VK} {elt tg iter : Expr} {ifs : List Expr} {gens : List Comprehension} {cs : List Cl} {scope : Scope} {own : List (Str × Nat)} {pos pos' : Pos} {wi : TI} {g : TG} {tt : TT} {te : TE} {use : Option (Value → Sem Unit)} {Qf : Value → Shared → Prop}
    (hc : X.calm = true) (hN : X.N.Nodup) (I : Inv X pins σ H s) (hi : PI X tg iter wi) (ok : BlkOk X.N X.env.scope scope own)
    (hg : ∀ (s : Shared) (H : Hp) (C : Addr) (cl : List (Str × Addr)) (fp : List Addr), PG (X.blk s H scope (compEnvC scope cl C X.env) fp) tg g) (ht : ∀ (s : Shared) (H : Hp) (C : Addr) (cl : List (Str × Addr)) (fp : List Addr), PTs (X.blk s H scope (compEnvC scope cl C X.env) fp) ifs tt)
    (he : ∀ (s : Shared) (H : Hp) (C : Addr) (cl : List (Str × Addr)) (fp : List Addr), PE (X.blk s H scope (compEnvC scope cl C X.env) fp) elt te) (hs : ∀ x, foldedSetIterable iter X.env x = pure x)
    (hcs : ∀ (s : Shared) (H : Hp) (C : Addr) (cl : List (Str × Addr)) (fp : List Addr), CJs (X.blk s H scope (compEnvC scope cl C X.env) fp) (own.map (·.2)) gens cs)
    (h : tLcN wi g tt cs te (own.map (·.2)) σ H Q)
    (hRR : ∀ D C s' m H', Inv X pins σ H' s' → Q (.ref D) H' → s'.heap.Ns C m → FpOk X pins H' C → compPost (model X.prog X.w) X.A X.xe use Qf (.ref D) C (.ok .next) s') :
    wpAny (model X.prog X.w) X.A (comprehension (.ListComp elt (⟨tg, iter, ifs, 0⟩ :: gens) scope pos) scope X.env pos' (newList []) false (eval iter X.env) use) Qf X.xe s := by
  have hfree : ∀ y ∈ scope.names, y.2 = .free → ∃ c, X.env.cells.lookup y.1 = some c := fun y hy e => by
    rcases ok.free y hy e with k | k
    · exact I.ok.has _ (.inl k)
    · exact I.ok.has _ (.inr k)
  refine wpAny_comprehension_free (use := use) rfl hs (closure_ok hfree) ok.kind (fun y hy e => by rw [ok.uniq y hy, e])
    (thn (hi.run pins s σ H _ I h) fun xv s1 hx => thn hx fun itv s2 h2 => ?_)
  obtain ⟨it, fp, tn, J, H2, e, I2, T, st2, f2, q⟩ := h2
  subst e
  refine wpAny_newObj_type (newEnv_comp ?_) (by show 0 ≤ sizeLine; decide)
  generalize hD : s2.heap.objs.size = D
  have hDn : H2 D = none := I2.hok.fresh (Nat.le_of_eq hD)
  obtain ⟨W, ⟨m0, w0⟩, turn⟩ := q D hDn
  generalize hs3 : ({ s2 with heap := s2.heap.push { cls := .type "list", data := .seq ([] : List Value).toArray } } : Shared) = s3
  have I3 : Inv X pins σ (upd H2 D (.lst [])) s3 := by
    rw [← hs3]
    refine I2.laid (t' := s2.toks) (fun b o e => Heap.get?_push_of_some _ e) (Nat.le_of_eq hD) ⟨Nat.zero_le _, [], 0, .nil, ?_⟩
    rw [← hD]
    exact Heap.get?_push_size _ rfl
  have h3 : s3.heap = s2.heap.push { cls := .type "list", data := .seq ([] : List Value).toArray } := by rw [← hs3]
  have sz : ∀ b ∈ fp, b < s2.heap.objs.size := fun b hb => by
    obtain ⟨o, e, _⟩ := T.obj _ _ st2 b hb
    exact Heap.lt_size e
  have f3 : ∀ b ∈ fp, FpOk X pins (upd H2 D (.lst [])) b ∧ b < s3.heap.objs.size := fun b hb => by
    have hlt := sz b hb
    refine ⟨⟨?_, (f2 b hb).2⟩, by rw [h3, Heap.size_push]; exact Nat.lt_succ_of_lt hlt⟩
    rw [upd_ne (by rw [← hD]; exact Nat.ne_of_lt hlt)]
    exact (f2 b hb).1
  have st3 : tn 0 s3.heap := T.keep _ _ _ st2 fun b _ o e => by rw [h3]; exact Heap.get?_push_of_some _ e
  have I4 := block_start I3 ok hN f3
  have pg := hg s3 (upd H2 D (.lst [])) s3.heap.objs.size (cellsFrom (s3.heap.objs.size + 1) scope.names (cloFrom X.env.cells scope.names [])) fp
  have pt := ht s3 (upd H2 D (.lst [])) s3.heap.objs.size (cellsFrom (s3.heap.objs.size + 1) scope.names (cloFrom X.env.cells scope.names [])) fp
  have pe := he s3 (upd H2 D (.lst [])) s3.heap.objs.size (cellsFrom (s3.heap.objs.size + 1) scope.names (cloFrom X.env.cells scope.names [])) fp
  have pcs := hcs s3 (upd H2 D (.lst [])) s3.heap.objs.size (cellsFrom (s3.heap.objs.size + 1) scope.names (cloFrom X.env.cells scope.names [])) fp
  show codeAny _ _ (.compStart (.ListComp elt (⟨tg, iter, ifs, 0⟩ :: gens) scope pos) 0 (.ref it) (.ref D) (compEnvC scope (cellsFrom (s3.heap.objs.size + 1) scope.names (cloFrom X.env.cells scope.names [])) s3.heap.objs.size X.env)) (compPost (model X.prog X.w) X.A X.xe use Qf (.ref D) s3.heap.objs.size) { s3 with heap := pushCells (s3.heap.push { cls := .type "dict", data := .dict #[] }) scope.names }
  have nfp : ∀ b ∈ fp, (upd H2 D (.lst [])) b = none := fun b hb => (f3 b hb).1.1
  generalize hce : compEnvC scope (cellsFrom (s3.heap.objs.size + 1) scope.names (cloFrom X.env.cells scope.names [])) s3.heap.objs.size X.env = ce at I4 pg pt pe pcs ⊢
  have cL : ce.locals = s3.heap.objs.size := by subst hce; rfl
  generalize hH3 : upd H2 D (.lst []) = H3 at I3 I4 pg pt pe pcs w0 nfp f3
  generalize hs4 : ({ s3 with heap := pushCells (s3.heap.push { cls := .type "dict", data := .dict #[] }) scope.names } : Shared) = s4 at I4 ⊢
  have st4 : tn 0 s4.heap := T.keep _ _ _ st3 fun b _ o e => by rw [← hs4]; exact pushCells_keeps _ _ _ _ (Heap.get?_push_of_some _ e)
  have stat : ∀ {σ' : L2.St} {H' : Hp} {s' : Shared}, Inv (X.blk s3 H3 scope ce fp) [] σ' H' s' → (∀ b ∈ fp, H' b = none) → ∀ b ∈ fp, FpOk (X.blk s3 H3 scope ce fp) [] H' b := fun {σ' H' s'} I' hn b hb =>
    ⟨hn b hb, (I'.ok.exf b hb).1, I'.ok.exfs b hb, .inl hb, fun x c e => (I'.ok.exf b hb).2 x c e, fun p hp => absurd (show p ∈ ([] : List (Addr × Obj)) ++ [] from hp) (by simp)⟩
  have loop : codeAny (model X.prog X.w) X.A (.compLoop (.ListComp elt (⟨tg, iter, ifs, 0⟩ :: gens) scope pos) 0 (.ref it) (.ref D) ce) (compPost (model X.prog X.w) X.A X.xe use Qf (.ref D) s3.heap.objs.size) s4 :=
    comp_loop (Y := X.blk s3 H3 scope ce fp) hc rfl pe D cs 0 tg iter ifs g tt (own.map (·.2)) rfl pcs pg pt [] (L2.wipe σ (own.map (·.2))) it fp tn J T W (Q (.ref D)) _ turn stat
      (fun s6 H5 I6 qq => by
        have I7 : Inv X pins σ H5 s6 := I3.call' (ch := fp) I6.os I6.base I6.hok I6.bare fun b hb => ⟨(f3 b hb).1.2.2.2.1, (f3 b hb).1.2.1, (f3 b hb).1.2.2.2.2.1, (f3 b hb).1.2.2.2.2.2⟩
        have nC : H5 s3.heap.objs.size = none := by
          have z : H5 ce.locals = none := I6.free
          rw [cL] at z
          exact z
        obtain ⟨m, hn, _⟩ := I6.loc
        have hn : s6.heap.Ns ce.locals m := hn
        rw [cL] at hn
        exact hRR D s3.heap.objs.size s6 m H5 I7 qq hn (I3.fpOk (Nat.le_refl _) nC)) m0 s4 H3 I4 st4 nfp w0
  exact codeAny_compStart_list loop (T.self X.A 0 _ _ _ st4 loop)
theorem pe_lcN {elt tg iter : Expr} {ifs : List Expr} {gens : List Comprehension} {cs : List Cl} {scope : Scope} {own : List (Str × Nat)} {pos : Pos} {wi : TI} {g : TG} {tt : TT} {te : TE} (hc : X.calm = true) (hN : X.N.Nodup) (hi : PI X tg iter wi) (ok : BlkOk X.N X.env.scope scope own)
    (hg : ∀ (s : Shared) (H : Hp) (C : Addr) (cl : List (Str × Addr)) (fp : List Addr), PG (X.blk s H scope (compEnvC scope cl C X.env) fp) tg g) (ht : ∀ (s : Shared) (H : Hp) (C : Addr) (cl : List (Str × Addr)) (fp : List Addr), PTs (X.blk s H scope (compEnvC scope cl C X.env) fp) ifs tt)
    (he : ∀ (s : Shared) (H : Hp) (C : Addr) (cl : List (Str × Addr)) (fp : List Addr), PE (X.blk s H scope (compEnvC scope cl C X.env) fp) elt te)
    (hcs : ∀ (s : Shared) (H : Hp) (C : Addr) (cl : List (Str × Addr)) (fp : List Addr), CJs (X.blk s H scope (compEnvC scope cl C X.env) fp) (own.map (·.2)) gens cs) (hs : ∀ x, foldedSetIterable iter X.env x = pure x := by intro _; rfl) :
    PE X (.ListComp elt (⟨tg, iter, ifs, 0⟩ :: gens) scope pos) (tLcN wi g tt cs te (own.map (·.2))) := by
  refine ⟨fun pins s σ H Q I h => ?_⟩
  rw [eval_ListComp]
  refine lcN_core hc hN I hi ok hg ht he hs hcs h fun D C s' m H' I' q hn f => ⟨m, hn, fun h'' sb => ?_⟩
  obtain ⟨f0, f1, f2, f3, f4, f5⟩ := f
  exact ⟨.ref D, H', I'.turned (t' := s'.toks) (fun b o hb e => (sb.2 b hb).trans e) f0 f1 f3 f4 f5, rfl, q⟩
theorem ps_setLcN {i : Nat} {y : Str} {py : Pos} {elt tg iter : Expr} {ifs : List Expr} {gens : List Comprehension} {cs : List Cl} {scope : Scope} {own : List (Str × Nat)} {pos spos : Pos} {wi : TI} {g : TG} {tt : TT} {te : TE} (hc : X.calm = true) (hN : X.N.Nodup) (hy : X.N[i]? = some y) (hyl : X.env.scope.names.lookup y = some .local)
    (hsw : swapsWith (.ListComp elt (⟨tg, iter, ifs, 0⟩ :: gens) scope pos) (some (.Name y py)) spos.line X.env = pure true) (hi : PI X tg iter wi) (ok : BlkOk X.N X.env.scope scope own)
    (hg : ∀ (s : Shared) (H : Hp) (C : Addr) (cl : List (Str × Addr)) (fp : List Addr), PG (X.blk s H scope (compEnvC scope cl C X.env) fp) tg g) (ht : ∀ (s : Shared) (H : Hp) (C : Addr) (cl : List (Str × Addr)) (fp : List Addr), PTs (X.blk s H scope (compEnvC scope cl C X.env) fp) ifs tt)
    (he : ∀ (s : Shared) (H : Hp) (C : Addr) (cl : List (Str × Addr)) (fp : List Addr), PE (X.blk s H scope (compEnvC scope cl C X.env) fp) elt te)
    (hcs : ∀ (s : Shared) (H : Hp) (C : Addr) (cl : List (Str × Addr)) (fp : List Addr), CJs (X.blk s H scope (compEnvC scope cl C X.env) fp) (own.map (·.2)) gens cs) (hs : ∀ x, foldedSetIterable iter X.env x = pure x := by intro _; rfl) :
    PS X (.Assign [.Name y py] (.ListComp elt (⟨tg, iter, ifs, 0⟩ :: gens) scope pos) spos) (tAsg (tLcN wi g tt cs te (own.map (·.2))) (gName i)) := by
  refine ⟨fun pins s σ H D I h => ?_⟩
  rw [exec_Assign_Name_used _ _ _ _ hsw]
  refine wpAny_bind (wpAny_standAt (wpAny_bind ?_))
  show wpAny _ X.A (do let _ ← comprehension (.ListComp elt (⟨tg, iter, ifs, 0⟩ :: gens) scope pos) scope X.env (firstIterPos (⟨tg, iter, ifs, 0⟩ :: gens) pos) (newList []) false (eval iter X.env) (some (assign (.Name y py) X.env))) _ _ s
  have h : tLcN wi g tt cs te (own.map (·.2)) σ H (fun x H1 => gName i x σ H1 D.nx) := h
  refine wpAny_bind (thn (lcN_core (Qf := fun _ s' => SP X pins D .next s') hc hN I hi ok hg ht he hs hcs h fun L C s' m H' I' q hn f => ?_) fun _ s' hq => wpAny_pure (wpAny_pure hq))
  show wpAny _ _ (assign (.Name y py) X.env (.ref L)) _ _ _
  refine wpAny_assign_Name (store_ok2 (v := V.ref L) I' hN hy (.inl hyl) rfl (fun s2 I2 ⟨a, sb, ha⟩ => ?_) (.inr hyl))
  obtain ⟨f0, f1, f2, f3, f4, f5⟩ := f
  have haC : C ≠ a := by
    rcases ha with z | z
    · rw [z]; exact f1
    · exact fun e => f4 y a z e.symm
  refine ⟨m, hn.sameBut sb haC, fun h3 sb3 => ?_⟩
  exact ⟨_, H', I2.turned (t' := s2.toks) (fun b o hb e => (sb3.2 b hb).trans e) f0 f1 f3 f4 f5, q⟩
end
end Nv
-- N25
namespace Nv
open PySem PySem.Spec PyProof.Rows L2
open Evl (Ex)
structure DCl where
  src : Ev → Rs (List D)
  g : TgF
  t : Ev → Rs Bool
  vs : List Nat
def loopN {α : Type} (body : α → Ev → Option (α × Ev)) (Γ0 : Ev) (g : TgF) (t : Ev → Rs Bool) : List D → α → Ev → Option (α × Ev)
  | [], acc, Γ => some (acc, Γ)
  | d :: r, acc, Γ => match g d Γ with
    | none => none
    | some Γ1 => match t Γ1 with
      | .ok true Γ2 => (match body acc Γ2 with
        | some p => loopN body Γ0 g t r p.1 (anchor Γ0 p.2)
        | none => none)
      | .ok false Γ2 => loopN body Γ0 g t r acc (anchor Γ0 Γ2)
      | _ => none
def bodyN (f : Ev → Rs D) : List DCl → List D → Ev → Option (List D × Ev)
  | [], acc, Γ => (match f Γ with
    | .ok y Γ' => if acc.length < sizeLine then some (acc ++ [y], Γ') else none
    | _ => none)
  | c :: cs, acc, Γ => match c.src Γ with
    | .ok items Γ1 => loopN (bodyN f cs) (wipeG Γ1 c.vs) c.g c.t items acc (wipeG Γ1 c.vs)
    | _ => none
def compN (vs : List Nat) (src : Ev → Rs (List D × List Nat)) (g : TgF) (t : Ev → Rs Bool) (cs : List DCl) (f : Ev → Rs D) : Ev → Rs AV := fun Γ => (src Γ).bind fun p Γ1 =>
  match loopN (bodyN f cs) (wipeG Γ1 (vs ++ p.2)) g t p.1 [] (wipeG Γ1 (vs ++ p.2)) with
  | some q => .ok (.own (.lst q.1)) (unw Γ1 q.2 (vs ++ p.2))
  | none => .bad
/-- the readings of the inner clauses are those of the data -/
inductive Rdc (c : Cf) : List Nat → List Cl → List DCl → Prop where
  | nil {all : List Nat} : Rdc c all [] []
  | cons {all : List Nat} {a : Cl} {d : DCl} {as : List Cl} {ds : List DCl} {ts : List Nat} (hw : a.wi = tI c.calm d.src) (gs : GSpec c a.g ts d.g) (hts : ∀ i ∈ ts, i ∈ d.vs) (ht : a.tt = tR c.calm vrT d.t) (hv : a.vs = d.vs)
      (sub : ∀ i ∈ d.vs, i ∈ all) (r : Rdc c d.vs as ds) : Rdc c all (a :: as) (d :: ds)
/-- what a new list, a new dict holds -/
def Kl (M : Md) (F : Hp) (acc : List D) (u : HO) : Prop := ∃ xs, u = .lst xs ∧ Reps M F acc xs
theorem Kl.mono {M : Md} {F F' : Hp} {acc : List D} {u : HO} (e : Ex F F') (h : Kl M F acc u) : Kl M F' acc u := by
  obtain ⟨xs, h1, h2⟩ := h
  exact ⟨xs, h1, h2.mono e⟩
/-- what stands in a comprehension's turn: A1, F1, H1 ahead of the new list at L -/
structure CSt {α : Type} (K : Hp → α → HO → Prop) (c : Cf) (A1 : Addr → Prop) (F1 H1 : Hp) (L : Addr) (σ : L2.St) (Γ : Ev) (F H : Hp) (acc : α) : Prop where
  rel : Rel c.M c.σ0 F H σ Γ
  ext : Ext A1 F1 H1 (own σ Γ) F H
  at_ : ∃ u, H L = some u ∧ K F acc u
  nf : F L = none
  nL : ¬ own σ Γ L
theorem PoI.bindN {c : Cf} {σ : L2.St} {F H : Hp} {Γ : Ev} {r : Rs (List D)} {R : It → Hp → Prop} {items : List D} {Γ1 : Ev} (e : r = .ok items Γ1) (h : ∀ F' H' J, Rel c.M c.σ0 F' H' σ Γ1 → Ext (own σ Γ) F H (own σ Γ1) F' H' → Wk c.M F' noP items J → R J H') : PoI c σ F H Γ r R := by
  subst e
  exact h
theorem wipe_sub {σ σ' : L2.St} {vs all : List Nat} (h : L2.wipe σ vs = L2.wipe σ' vs) (hs : ∀ i ∈ vs, i ∈ all) : L2.wipe σ all = L2.wipe σ' all := by
  have hl : σ.length = σ'.length := by rw [← wipe_length σ vs, h, wipe_length]
  apply List.ext_getElem?
  intro j
  by_cases hj : j ∈ all
  · have gone : ∀ τ : L2.St, (L2.wipe τ all)[j]? = if j < τ.length then some none else none := fun τ => by
      by_cases hlt : j < τ.length
      · rw [if_pos hlt]
        have : (L2.wipe τ all)[j]? ≠ none := by
          rw [Ne, List.getElem?_eq_none_iff, wipe_length]
          omega
        cases e : (L2.wipe τ all)[j]? with
        | none => exact absurd e this
        | some o =>
          cases o with
          | none => rfl
          | some x => exact absurd hj (wipe_some e).2
      · rw [if_neg hlt, List.getElem?_eq_none (by rw [wipe_length]; omega)]
    rw [gone, gone, hl]
  · rw [wipe_out hj, wipe_out hj, ← wipe_out (σ := σ) (vs := vs) fun z => hj (hs j z), h, wipe_out fun z => hj (hs j z)]
section
variable {c : Cf} {A1 : Addr → Prop} {F1 H1 : Hp} {L : Addr} {f : Ev → Rs D}
/-- the turns of one clause; B: what its body is to do -/
theorem loop_rd {α : Type} {K : Hp → α → HO → Prop} (hK : ∀ {F F' : Hp} {acc : α} {u : HO}, Ex F F' → K F acc u → K F' acc u) (hKn : ∀ {F : Hp} {acc : α} {u : HO}, K F acc u → NT u) {vs ts : List Nat} {g : TG} {gf : TgF} {t : Ev → Rs Bool} (gs : GSpec c g ts gf) (hts : ∀ i ∈ ts, i ∈ vs)
    {body : α → Ev → Option (α × Ev)} {B : L2.St → Hp → (Hp → Prop) → Prop}
    (hB : ∀ (σ : L2.St) (Γ : Ev) (F H : Hp) (acc : α) (p : α × Ev) (Nx : Hp → Prop), CSt K c A1 F1 H1 L σ Γ F H acc → body acc Γ = some p →
      (∀ σ' F' H', L2.wipe σ' vs = L2.wipe σ vs → Ex F F' → CSt K c A1 F1 H1 L σ' p.2 F' H' p.1 → Nx H') → B σ H Nx)
    {σ : L2.St} {Γ0 : Ev} (hΓ : ∀ i t o, Γ0[i]? = some (Slot.own t o) → i ∉ vs) {J : It} {items : List D} {P : Addr → HO → Prop} {F0 : Hp} (w : Wk c.M F0 P items J) {accF : α} {ΓF : Ev}
    {F2 H2 : Hp} {acc0 : α} (s0 : CSt K c A1 F1 H1 L (L2.wipe σ vs) Γ0 F2 H2 acc0) (ex0 : Ex F0 F2) (h0 : loopN body Γ0 gf t items acc0 Γ0 = some (accF, ΓF))
    (hP : ∀ F H Γ acc, CSt K c A1 F1 H1 L (L2.wipe σ vs) Γ F H acc → (∀ b, own (L2.wipe σ vs) Γ b → own (L2.wipe σ vs) Γ0 b) → ∀ a u, P a u → H a = some u)
    {Qd : Hp → Prop} (hQ : ∀ F H, CSt K c A1 F1 H1 L (L2.wipe σ vs) ΓF F H accF → Ex F2 F → (∀ b, own (L2.wipe σ vs) ΓF b → own (L2.wipe σ vs) Γ0 b) → Qd H) :
    ∃ W : Nat → Nat → Hp → Prop, (∃ m, W 0 m H2) ∧ ∀ j k H, W j k H → (J.stop j H ∧ Qd H) ∨ (J.go j H ∧ ∃ Nx1 : Hp → Prop, (∀ H', Nx1 H' → ∃ k', k' < k ∧ W (j + 1) k' H') ∧
      ∀ x H', J.yld j H x H' → g x (L2.wipe σ vs) H' fun σ3 H5 => L2.wipe σ3 vs = L2.wipe σ vs ∧ tR c.calm vrT t σ3 H5 fun b H6 => if b = true then B σ3 H6 Nx1 else Nx1 H6) := by
  obtain ⟨G, Y, w, hG, hY⟩ := w
  let Pv : Nat → Hp → Prop := fun i H => ∃ F Γ acc, CSt K c A1 F1 H1 L (L2.wipe σ vs) Γ F H acc ∧ (∀ b, own (L2.wipe σ vs) Γ b → own (L2.wipe σ vs) Γ0 b) ∧ Ex F2 F ∧ loopN body Γ0 gf t (items.drop i) acc Γ = some (accF, ΓF)
  refine ⟨fun i m H => m = items.length - i ∧ i ≤ items.length ∧ Pv i H, ⟨_, rfl, Nat.zero_le _, F2, Γ0, acc0, s0, (fun _ z => z), Evl.Ex.refl _, h0⟩, ?_⟩
  rintro j k H ⟨rfl, hj, F, Γ, acc, s, osub, ex, hl⟩
  have q := hG F H (ex0.trans ex) s.rel.sub (hP F H Γ acc s osub)
  by_cases hlt : j < items.length
  · refine .inr ⟨w.goes j H hlt q, Pv (j + 1), fun H' p' => ⟨items.length - (j + 1), by omega, rfl, hlt, p'⟩, fun x H' y => ?_⟩
    obtain ⟨F3, d, hd, e2, sub2, rd⟩ := hY j F H x H' hlt (ex0.trans ex) s.rel.sub (w.yields j H x H' hlt q y)
    have ra2 := s.rel.op e2 sub2
    obtain ⟨xs, hD, hacc⟩ := s.at_
    have hdrop : items.drop j = d :: items.drop (j + 1) := by
      obtain ⟨h1, h2⟩ := List.getElem?_eq_some_iff.mp hd
      rw [← h2]
      exact List.drop_eq_getElem_cons h1
    rw [hdrop] at hl
    unfold loopN at hl
    cases hgd : gf d Γ with
    | none => rw [hgd] at hl; cases hl
    | some Γ3 =>
      rw [hgd] at hl
      dsimp only at hl
      refine gs (L2.wipe σ vs) F3 H' Γ x d Γ3 _ ra2 rd hgd fun σ3 x1 x2 x3 => ?_
      have hw3 : L2.wipe σ3 vs = L2.wipe σ vs := by rw [x3 vs hts, wipe_idem]
      have s3 : CSt K c A1 F1 H1 L σ3 Γ3 F3 H' acc := ⟨x1, (s.ext.trans (e2.sub fun _ z => z.elim)).subA x2, ⟨xs, e2.hh L _ id hD, hK e2.ff hacc⟩, e2.fn L _ id hD s.nf (hKn hacc), fun z => s.nL (x2 L z)⟩
      -- back to the start of a turn
      have back : ∀ {σ5 : L2.St} {Γ5 : Ev} {F5 H5 : Hp} {acc5 : α}, L2.wipe σ5 vs = L2.wipe σ vs → CSt K c A1 F1 H1 L σ5 Γ5 F5 H5 acc5 → Ex F3 F5 → loopN body Γ0 gf t (items.drop (j + 1)) acc5 (anchor Γ0 Γ5) = some (accF, ΓF) → Pv (j + 1) H5 :=
        fun {σ5 Γ5 F5 H5 acc5} hw5 s5 ex5 hl5 => by
          have ex6 : Ex F2 F5 := (ex.trans e2.ff).trans ex5
          obtain ⟨y1, y2⟩ := rel_anchor s0.rel s5.rel ex6 hw5 hΓ
          exact ⟨F5, _, acc5, ⟨y1, s5.ext.subA fun b z => (y2 b z).2, s5.at_, s5.nf, fun z => s5.nL (y2 L z).2⟩, (fun b z => (y2 b z).1), ex6, hl5⟩
      refine ⟨hw3, F3, Γ3, x1, ?_⟩
      cases ht : t Γ3 with
      | bad => rw [ht] at hl; cases hl
      | ex n l Γ4 => rw [ht] at hl; cases hl
      | ok b Γ4 =>
        rw [ht] at hl
        intro F4 H4 v r4 e4 ev
        have ev2 : v = b := ev
        subst ev2
        obtain ⟨xs3, hD3, hacc3⟩ := s3.at_
        have s4 : CSt K c A1 F1 H1 L σ3 Γ4 F4 H4 acc := ⟨r4, s3.ext.trans e4, ⟨xs3, e4.hh L _ s3.nL hD3, hK e4.ff hacc3⟩, e4.fn L _ s3.nL hD3 s3.nf (hKn hacc3), fun z => by
          rcases e4.aa L z with z | z
          · exact s3.nL z
          · rw [hD3] at z; cases z⟩
        cases v with
        | false =>
          rw [if_neg (by decide)]
          exact back hw3 s4 e4.ff hl
        | true =>
          rw [if_pos rfl]
          dsimp only at hl
          cases hb : body acc Γ4 with
          | none => rw [hb] at hl; cases hl
          | some p =>
            rw [hb] at hl
            exact hB σ3 Γ4 F4 H4 acc p _ s4 hb fun σ' F' H'' hw' ex' s5 => back (hw'.trans hw3) s5 (e4.ff.trans ex') hl
  · have e : j = items.length := by omega
    subst e
    rw [List.drop_length] at hl
    unfold loopN at hl
    cases hl
    exact .inl ⟨w.stops H q, hQ F H s ex osub⟩
/-- the body of a clause -/
theorem body_rd (hL : H1 L = none) : ∀ {all : List Nat} {as : List Cl} {ds : List DCl}, Rdc c all as ds → ∀ (σ : L2.St) (Γ : Ev) (F H : Hp) (acc : List D) (p : List D × Ev) (Nx : Hp → Prop), CSt (Kl c.M) c A1 F1 H1 L σ Γ F H acc → bodyN f ds acc Γ = some p →
    (∀ σ' F' H', L2.wipe σ' all = L2.wipe σ all → Ex F F' → CSt (Kl c.M) c A1 F1 H1 L σ' p.2 F' H' p.1 → Nx H') → tBody (tR c.calm (vrD c.M) f) L as σ H Nx
  | all, _, _, .nil, σ, Γ, F, H, acc, p, Nx, s, hb, k => by
    unfold bodyN at hb
    refine ⟨F, Γ, s.rel, ?_⟩
    cases hf : f Γ with
    | bad => rw [hf] at hb; cases hb
    | ex n l Γ5 => rw [hf] at hb; cases hb
    | ok y Γ5 =>
      rw [hf] at hb
      dsimp only at hb
      split at hb
      · rename_i hlen
        cases hb
        intro F5 H5 v r5 e5 rv
        obtain ⟨u0, hD, xs, rfl, hacc⟩ := s.at_
        have hD5 : H5 L = some (.lst xs) := e5.hh L _ s.nL hD
        have fD5 : F5 L = none := e5.fn L _ s.nL hD s.nf trivial
        have n5 : ¬ own σ Γ5 L := fun z => by
          rcases e5.aa L z with z | z
          · exact s.nL z
          · rw [hD] at z; cases z
        have hacc5 := hacc.mono e5.ff
        have ex := s.ext.trans e5
        refine ⟨xs, hD5, by rw [hacc5.length]; exact hlen, k σ F5 _ rfl e5.ff ⟨?_, ?_, ⟨_, upd_same, xs ++ [v], rfl, hacc5.snoc rv⟩, fD5, n5⟩⟩
        · refine r5.grow (Evl.Ex.refl _) (fun b u hb => ?_) fun b z => ⟨upd_ne fun e => n5 (e ▸ z), (r5.ownF z).1⟩
          rw [upd_ne fun e => by rw [e, fD5] at hb; cases hb]
          exact r5.sub b u hb
        · refine ⟨ex.ff, fun b u n hb => ?_, ex.fn, ex.aa⟩
          rw [upd_ne (ne_of_none hb hL)]
          exact ex.hh b u n hb
      · cases hb
  | all, _, _, @Rdc.cons _ _ a d as ds ts hw gs hts ht hv sub r, σ, Γ, F, H, acc, p, Nx, s, hb, k => by
    unfold bodyN at hb
    cases hsrc : d.src Γ with
    | bad => rw [hsrc] at hb; cases hb
    | ex n l Γ5 => rw [hsrc] at hb; cases hb
    | ok items Γ1 =>
      rw [hsrc] at hb
      dsimp only at hb
      show a.wi σ H _
      rw [hw, ht, hv]
      refine ⟨F, Γ, s.rel, PoI.bindN hsrc fun F2 H2 J r2 e2 wk => ?_⟩
      obtain ⟨xs, hD, hacc⟩ := s.at_
      have hv2 : ∀ i ∈ d.vs, i ∈ d.vs := fun i hi => hi
      have r0 : Rel c.M c.σ0 F2 H2 (L2.wipe σ d.vs) (wipeG Γ1 d.vs) := rel_wipe r2 hv2
      have osub : ∀ b, own (L2.wipe σ d.vs) (wipeG Γ1 d.vs) b → own σ Γ1 b := fun b z => by
        obtain ⟨i, t, o, _, k1, k2⟩ := own_wipe hv2 z
        exact ⟨i, t, o, k1, k2⟩
      have n2 : ¬ own σ Γ1 L := fun z => by
        rcases e2.aa L z with z | z
        · exact s.nL z
        · rw [hD] at z; cases z
      have s0 : CSt (Kl c.M) c A1 F1 H1 L (L2.wipe σ d.vs) (wipeG Γ1 d.vs) F2 H2 acc :=
        ⟨r0, (s.ext.trans e2).subA osub, ⟨xs, e2.hh L _ s.nL hD, hacc.mono e2.ff⟩, e2.fn L _ s.nL hD s.nf (by obtain ⟨_, rfl, _⟩ := hacc; trivial), fun z => n2 (osub L z)⟩
      refine loop_rd (K := Kl c.M) (fun e h => Kl.mono e h) (fun h => by obtain ⟨_, rfl, _⟩ := h; trivial) gs hts (B := fun σ H Nx => tBody (tR c.calm (vrD c.M) f) L as σ H Nx) (body := bodyN f ds) (fun σ Γ F H acc p Nx s hb k => body_rd hL r σ Γ F H acc p Nx s hb k)
        (fun i t o q z => ?_) wk s0 (Evl.Ex.refl _) hb (fun _ _ _ _ _ _ _ _ z => z.elim) fun F H s ex _ => k (L2.wipe σ d.vs) F H (wipe_sub (wipe_idem) sub) (e2.ff.trans ex) s
      rcases wipeG_get q with ⟨_, e⟩ | ⟨n, _⟩
      · cases e
      · exact n z
end
theorem rd_lcN {c : Cf} {vs ts : List Nat} {src : Ev → Rs (List D × List Nat)} {tg : TG} {g : TgF} {t : Ev → Rs Bool} {f : Ev → Rs D} {as : List Cl} {ds : List DCl} (gs : GSpec c tg ts g) (hts : ∀ i ∈ ts, i ∈ vs) (hr : Rdc c vs as ds) {σ : L2.St} {H : Hp} {Q : VK} (h : tR c (vrO c.M) (compN vs src g t ds f) σ H Q) :
    tLcN (tI2 c src) tg (tR c.calm vrT t) as (tR c.calm (vrD c.M) f) vs σ H Q := by
  obtain ⟨F, Γ, r, q⟩ := h
  refine ⟨F, Γ, r, (PoI2.bind2 q).imp fun J H1 ⟨F1, Γ1, ⟨items, hs⟩, r1, e1, wk, q1⟩ => ?_⟩
  intro L nL
  dsimp only at wk q1
  have hv : ∀ i ∈ vs, i ∈ vs ++ hs := fun i hi => List.mem_append_left _ hi
  have r0 : Rel c.M c.σ0 F1 H1 (L2.wipe σ vs) (wipeG Γ1 (vs ++ hs)) := rel_wipe r1 hv
  have hvs : ∀ i t o, (wipeG Γ1 (vs ++ hs))[i]? = some (Slot.own t o) → i ∉ vs := fun i t o q z => by
    rcases wipeG_get q with ⟨_, e⟩ | ⟨n, _⟩
    · cases e
    · exact n (hv i z)
  have nL0 : ¬ own (L2.wipe σ vs) (wipeG Γ1 (vs ++ hs)) L := fun z => by
    obtain ⟨_, u, hu⟩ := r0.ownF z
    rw [nL] at hu; cases hu
  cases hc : loopN (bodyN f ds) (wipeG Γ1 (vs ++ hs)) g t items [] (wipeG Γ1 (vs ++ hs)) with
  | none => rw [hc] at q1; exact q1.elim
  | some res =>
    rw [hc] at q1
    obtain ⟨accF, ΓF⟩ := res
    dsimp only at q1
    have s0 : CSt (Kl c.M) c (own (L2.wipe σ vs) (wipeG Γ1 (vs ++ hs))) F1 H1 L (L2.wipe σ vs) (wipeG Γ1 (vs ++ hs)) F1 (upd H1 L (.lst [])) [] :=
      ⟨r0.new nL, Ext.new nL, ⟨_, upd_same, [], rfl, Reps.nil⟩, r1.fr nL, nL0⟩
    refine loop_rd (K := Kl c.M) (fun e h => Kl.mono e h) (fun h => by obtain ⟨_, rfl, _⟩ := h; trivial) gs hts (B := fun σ H Nx => tBody (tR c.calm (vrD c.M) f) L as σ H Nx) (body := bodyN f ds) (fun σ Γ F H acc p Nx s hb k => body_rd nL hr σ Γ F H acc p Nx s hb k) hvs wk s0 (Evl.Ex.refl _) hc ?_ ?_
    · rintro F' H' Γ' acc s osub a u ⟨j, hj, t', o', g1, g2, g3⟩
      refine s.ext.hh a u (fun z => ?_) g3
      obtain ⟨k, t2, o2, n, k1, k2⟩ := own_wipe hv z
      have z2 := r1.sep j k _ _ _ _ a g1 k1 g2 k2
      subst z2
      exact n (List.mem_append_right _ hj)
    · intro F' H' s ex osub
      obtain ⟨u0, hD, xs, rfl, hacc⟩ := s.at_
      obtain ⟨y1, y2, y3⟩ := rel_unw r1 hv s.rel s.ext osub
      refine q1 F' H' (.ref L) y1 (e1.trans y2) ⟨L, rfl, s.nf, fun z => ?_, ⟨xs, hD, hacc⟩, e1.back (.inr nL)⟩
      obtain ⟨_, u, hu⟩ := r1.ownF (y3 L z)
      rw [nL] at hu; cases hu
end Nv
-- N26
namespace Nv
open PySem PySem.Spec PyProof.Rows L2
open Evl (Ex)
section
variable {X Y : Cx} {c : Cf}
theorem cjs_cons {all vs : List Nat} {tg iter : Expr} {ifs : List Expr} {src : Ev → Rs (List D)} {g : TG} {t : Ev → Rs Bool} {gs : List Comprehension} {as : List Cl} (hi : PI Y tg iter (tI c.calm src)) (hg : PG Y tg g) (ht : PTs Y ifs (tR c.calm vrT t)) (r : CJs Y vs gs as)
    (hv : ∀ j ∈ vs, j ∈ all := by decide) (hs : ∀ x, foldedSetIterable iter Y.env x = pure x := by intro _; rfl) : CJs Y all (⟨tg, iter, ifs, 0⟩ :: gs) (⟨tI c.calm src, g, tR c.calm vrT t, vs⟩ :: as) := .cons hi hg ht hv hs r
theorem rdc_cons {all vs ts : List Nat} {src : Ev → Rs (List D)} {g : TG} {gf : TgF} {t : Ev → Rs Bool} {as : List Cl} {ds : List DCl} (gs : GSpec c g ts gf) (r : Rdc c vs as ds) (hts : ∀ i ∈ ts, i ∈ vs := by decide) (sub : ∀ i ∈ vs, i ∈ all := by decide) :
    Rdc c all (⟨tI c.calm src, g, tR c.calm vrT t, vs⟩ :: as) (⟨src, gf, t, vs⟩ :: ds) := .cons rfl gs hts rfl rfl sub r
theorem do_lcN {elt tg iter : Expr} {ifs : List Expr} {gens : List Comprehension} {as : List Cl} {ds : List DCl} {scope : Scope} {own : List (Str × Nat)} {pos : Pos} {src : Ev → Rs (List D × List Nat)} {g : TG} {gf : TgF} {ts : List Nat} {t : Ev → Rs Bool} {f : Ev → Rs D} (hc : X.calm = true) (hN : X.N.Nodup) (hi : DI2 X c tg iter src) (ok : BlkOk X.N X.env.scope scope own)
    (hg : ∀ (s : Shared) (H : Hp) (C : Addr) (cl : List (Str × Addr)) (fp : List Addr), PG (X.blk s H scope (compEnvC scope cl C X.env) fp) tg g) (gs : GSpec c g ts gf) (hts : ∀ i ∈ ts, i ∈ own.map (·.2)) (ht : ∀ (s : Shared) (H : Hp) (C : Addr) (cl : List (Str × Addr)) (fp : List Addr), DTs (X.blk s H scope (compEnvC scope cl C X.env) fp) c.calm ifs t)
    (he : ∀ (s : Shared) (H : Hp) (C : Addr) (cl : List (Str × Addr)) (fp : List Addr), DE (X.blk s H scope (compEnvC scope cl C X.env) fp) c.calm elt f)
    (hcs : ∀ (s : Shared) (H : Hp) (C : Addr) (cl : List (Str × Addr)) (fp : List Addr), CJs (X.blk s H scope (compEnvC scope cl C X.env) fp) (own.map (·.2)) gens as) (hr : Rdc c (own.map (·.2)) as ds) (hs : ∀ x, foldedSetIterable iter X.env x = pure x := by intro _; rfl) :
    DO X c (.ListComp elt (⟨tg, iter, ifs, 0⟩ :: gens) scope pos) (compN (own.map (·.2)) src gf t ds f) := PE.of (pe_lcN hc hN hi ok hg ht he hcs hs) fun σ H Q q => rd_lcN gs hts hr q
theorem ds_setLcN {i : Nat} {y : Str} {py : Pos} {elt tg iter : Expr} {ifs : List Expr} {gens : List Comprehension} {as : List Cl} {ds : List DCl} {scope : Scope} {own : List (Str × Nat)} {pos spos : Pos} {src : Ev → Rs (List D × List Nat)} {g : TG} {gf : TgF} {ts : List Nat} {t : Ev → Rs Bool} {f : Ev → Rs D} (hc : X.calm = true) (hN : X.N.Nodup) (hy : X.N[i]? = some y) (hyl : X.env.scope.names.lookup y = some .local)
    (hsw : swapsWith (.ListComp elt (⟨tg, iter, ifs, 0⟩ :: gens) scope pos) (some (.Name y py)) spos.line X.env = pure true) (hi : DI2 X c tg iter src) (ok : BlkOk X.N X.env.scope scope own)
    (hg : ∀ (s : Shared) (H : Hp) (C : Addr) (cl : List (Str × Addr)) (fp : List Addr), PG (X.blk s H scope (compEnvC scope cl C X.env) fp) tg g) (gs : GSpec c g ts gf) (hts : ∀ i ∈ ts, i ∈ own.map (·.2)) (ht : ∀ (s : Shared) (H : Hp) (C : Addr) (cl : List (Str × Addr)) (fp : List Addr), DTs (X.blk s H scope (compEnvC scope cl C X.env) fp) c.calm ifs t)
    (he : ∀ (s : Shared) (H : Hp) (C : Addr) (cl : List (Str × Addr)) (fp : List Addr), DE (X.blk s H scope (compEnvC scope cl C X.env) fp) c.calm elt f)
    (hcs : ∀ (s : Shared) (H : Hp) (C : Addr) (cl : List (Str × Addr)) (fp : List Addr), CJs (X.blk s H scope (compEnvC scope cl C X.env) fp) (own.map (·.2)) gens as) (hr : Rdc c (own.map (·.2)) as ds) (hs : ∀ x, foldedSetIterable iter X.env x = pure x := by intro _; rfl) :
    DS X c (.Assign [.Name y py] (.ListComp elt (⟨tg, iter, ifs, 0⟩ :: gens) scope pos) spos) (setS i (compN (own.map (·.2)) src gf t ds f)) := PS.of (ps_setLcN hc hN hy hyl hsw hi ok hg ht he hcs hs) fun De σ H q => rd_lcN gs hts hr (rd_set q)
end
section
variable {ι : Type} {gd : TgF} {t : Ev → Rs Bool} {body : List D → Ev → Option (List D × Ev)}
theorem loopN_fm {Γ0 Γ : Ev} (e : ι → D) (val : ι → List D) (P : ι → Prop)
    (h : ∀ x, P x → ∃ Γ1, gd (e x) Γ = some Γ1 ∧ ((∃ Γ2, t Γ1 = .ok true Γ2 ∧ ∀ acc : List D, acc.length + (val x).length ≤ sizeLine → ∃ Γ3, body acc Γ2 = some (acc ++ val x, Γ3) ∧ anchor Γ0 Γ3 = Γ) ∨ (∃ Γ2, t Γ1 = .ok false Γ2 ∧ val x = [] ∧ anchor Γ0 Γ2 = Γ))) :
    ∀ (xs : List ι) (acc : List D), (∀ x ∈ xs, P x) → acc.length + (xs.flatMap val).length ≤ sizeLine → loopN body Γ0 gd t (xs.map e) acc Γ = some (acc ++ xs.flatMap val, Γ)
  | [], acc, _, _ => by simp [loopN]
  | x :: xs, acc, hP, hl => by
    obtain ⟨Γ1, h1, h2⟩ := h x (hP x List.mem_cons_self)
    rw [List.flatMap_cons, List.length_append] at hl
    rw [List.map_cons, loopN, h1]
    dsimp only
    rcases h2 with ⟨Γ2, h2, h3⟩ | ⟨Γ2, h2, h3, h4⟩
    · rw [h2]
      obtain ⟨Γ3, h4, h5⟩ := h3 acc (by omega)
      dsimp only
      rw [h4]
      dsimp only
      rw [h5, loopN_fm e val P h xs (acc ++ val x) (fun y hy => hP y (List.mem_cons_of_mem _ hy)) (by rw [List.length_append]; omega), List.flatMap_cons, List.append_assoc]
    · rw [h2]
      dsimp only
      rw [h4, loopN_fm e val P h xs acc (fun y hy => hP y (List.mem_cons_of_mem _ hy)) (by rw [h3] at hl; simpa using hl), List.flatMap_cons, h3, List.nil_append]
end
section
variable {Γ : Ev} {vs : List Nat} {gd : TgF} {t : Ev → Rs Bool} {ds : List DCl} {d : Ev → Rs D} {srcp : Ev → Rs (List D × List Nat)} {p : List D × List Nat}
def kCompN (vs : List Nat) (gd : TgF) (t : Ev → Rs Bool) (ds : List DCl) (d : Ev → Rs D) (p : List D × List Nat) (Γ : Ev) : Rs AV := (match loopN (bodyN d ds) (wipeG Γ (vs ++ p.2)) gd t p.1 [] (wipeG Γ (vs ++ p.2)) with
  | some q => .ok (.own (.lst q.1)) (unw Γ q.2 (vs ++ p.2))
  | none => .bad)
theorem kCompN_ap : kCompN vs gd t ds d p Γ = (match loopN (bodyN d ds) (wipeG Γ (vs ++ p.2)) gd t p.1 [] (wipeG Γ (vs ++ p.2)) with
  | some q => .ok (.own (.lst q.1)) (unw Γ q.2 (vs ++ p.2))
  | none => .bad) := rfl
theorem compN_ap : compN vs srcp gd t ds d Γ = (srcp Γ).bind (kCompN vs gd t ds d) := rfl
end
end Nv
-- N27
namespace Nv
open PySem PySem.Spec PyProof.Rows L2
open Evl (Ex)
def bodyD (fk fv : Ev → Rs D) : List (D × D) → Ev → Option (List (D × D) × Ev) := fun acc Γ => match fk Γ with
  | .ok k Γ1 => (match fv Γ1 with
    | .ok v Γ2 => if k.key.isSome = true ∧ acc.length < sizeLine then some (dput acc k v, Γ2) else none
    | _ => none)
  | _ => none
def compD (vs : List Nat) (src : Ev → Rs (List D × List Nat)) (g : TgF) (t : Ev → Rs Bool) (fk fv : Ev → Rs D) : Ev → Rs AV := fun Γ => (src Γ).bind fun p Γ1 =>
  match loopN (bodyD fk fv) (wipeG Γ1 (vs ++ p.2)) g t p.1 [] (wipeG Γ1 (vs ++ p.2)) with
  | some q => .ok (.own (.dct q.1)) (unw Γ1 q.2 (vs ++ p.2))
  | none => .bad
def Kd (M : Md) (F : Hp) (acc : List (D × D)) (u : HO) : Prop := ∃ xs, u = .dK xs ∧ RepK M F acc xs
theorem Kd.mono {M : Md} {F F' : Hp} {acc : List (D × D)} {u : HO} (e : Ex F F') (h : Kd M F acc u) : Kd M F' acc u := by
  obtain ⟨xs, h1, h2⟩ := h
  exact ⟨xs, h1, h2.mono e⟩
theorem key_of {M : Md} {F H : Hp} {d : D} {v : V} (h : Rep M F d v) (e : d.key.isSome = true) : ∃ k, d = kD k ∧ v = kV k ∧ kOk k = true := by
  cases q : d.key with
  | none => rw [q] at e; cases e
  | some k =>
    have := key1 (H := F) (h.one (fun _ _ z => z)) q
    exact ⟨k, this⟩
theorem rd_dc {c : Cf} {vs ts : List Nat} {src : Ev → Rs (List D × List Nat)} {tg : TG} {g : TgF} {t : Ev → Rs Bool} {fk fv : Ev → Rs D} (gs : GSpec c tg ts g) (hts : ∀ i ∈ ts, i ∈ vs) {σ : L2.St} {H : Hp} {Q : VK} (h : tR c (vrO c.M) (compD vs src g t fk fv) σ H Q) :
    tDc (tI2 c src) tg (tR c.calm vrT t) (tR c.calm (vrD c.M) fk) (tR c.calm (vrD c.M) fv) vs σ H Q := by
  obtain ⟨F, Γ, r, q⟩ := h
  refine ⟨F, Γ, r, (PoI2.bind2 q).imp fun J H1 ⟨F1, Γ1, ⟨items, hs⟩, r1, e1, wk, q1⟩ => ?_⟩
  intro L nL
  dsimp only at wk q1
  have hv : ∀ i ∈ vs, i ∈ vs ++ hs := fun i hi => List.mem_append_left _ hi
  have r0 : Rel c.M c.σ0 F1 H1 (L2.wipe σ vs) (wipeG Γ1 (vs ++ hs)) := rel_wipe r1 hv
  have hvs : ∀ i t o, (wipeG Γ1 (vs ++ hs))[i]? = some (Slot.own t o) → i ∉ vs := fun i t o q z => by
    rcases wipeG_get q with ⟨_, e⟩ | ⟨n, _⟩
    · cases e
    · exact n (hv i z)
  have nL0 : ¬ own (L2.wipe σ vs) (wipeG Γ1 (vs ++ hs)) L := fun z => by
    obtain ⟨_, u, hu⟩ := r0.ownF z
    rw [nL] at hu; cases hu
  cases hc : loopN (bodyD fk fv) (wipeG Γ1 (vs ++ hs)) g t items [] (wipeG Γ1 (vs ++ hs)) with
  | none => rw [hc] at q1; exact q1.elim
  | some res =>
    rw [hc] at q1
    obtain ⟨accF, ΓF⟩ := res
    dsimp only at q1
    have s0 : CSt (Kd c.M) c (own (L2.wipe σ vs) (wipeG Γ1 (vs ++ hs))) F1 H1 L (L2.wipe σ vs) (wipeG Γ1 (vs ++ hs)) F1 (upd H1 L (.dK [])) [] :=
      ⟨r0.new nL, Ext.new nL, ⟨_, upd_same, [], rfl, by unfold RepK; rfl⟩, r1.fr nL, nL0⟩
    refine loop_rd (K := Kd c.M) (fun e h => Kd.mono e h) (fun h => by obtain ⟨_, rfl, _⟩ := h; trivial) gs hts (B := fun σ H Nx => tR c.calm (vrD c.M) fk σ H fun y H4 => tR c.calm (vrD c.M) fv σ H4 fun z H5 => ∃ kvs k, y = kV k ∧ H5 L = some (.dK kvs) ∧ kvs.length < sizeLine ∧ Nx (upd H5 L (.dK (putK kvs k z)))) (body := bodyD fk fv) ?_ hvs wk s0 (Evl.Ex.refl _) hc ?_ ?_
    · intro σ Γ F H acc p Nx s hb k
      unfold bodyD at hb
      refine ⟨F, Γ, s.rel, ?_⟩
      cases hk : fk Γ with
      | bad => rw [hk] at hb; cases hb
      | ex n l Γ5 => rw [hk] at hb; cases hb
      | ok dk Γ4 =>
        rw [hk] at hb
        dsimp only at hb
        intro F4 H4 y r4 e4 ry
        refine ⟨F4, Γ4, r4, ?_⟩
        cases hf : fv Γ4 with
        | bad => rw [hf] at hb; cases hb
        | ex n l Γ5 => rw [hf] at hb; cases hb
        | ok dv Γ5 =>
          rw [hf] at hb
          dsimp only at hb
          split at hb
          · rename_i hlen
            cases hb
            intro F5 H5 z r5 e5 rz
            obtain ⟨u0, hD, xs, rfl, hacc⟩ := s.at_
            have ee := e4.trans e5
            have hD5 : H5 L = some (.dK xs) := ee.hh L _ s.nL hD
            have fD5 : F5 L = none := ee.fn L _ s.nL hD s.nf trivial
            have n5 : ¬ own σ Γ5 L := fun z => by
              rcases ee.aa L z with z | z
              · exact s.nL z
              · rw [hD] at z; cases z
            have hacc5 := hacc.mono ee.ff
            have ex := s.ext.trans ee
            obtain ⟨kk, rfl, rfl, ok⟩ := key_of (H := H5) ry hlen.1
            refine ⟨xs, kk, rfl, hD5, by rw [hacc5.length]; exact hlen.2, k σ F5 _ rfl ee.ff ⟨?_, ?_, ⟨_, upd_same, _, rfl, hacc5.put kk ok rz⟩, fD5, n5⟩⟩
            · refine r5.grow (Evl.Ex.refl _) (fun b u hb => ?_) fun b z => ⟨upd_ne fun e => n5 (e ▸ z), (r5.ownF z).1⟩
              rw [upd_ne fun e => by rw [e, fD5] at hb; cases hb]
              exact r5.sub b u hb
            · refine ⟨ex.ff, fun b u n hb => ?_, ex.fn, ex.aa⟩
              rw [upd_ne (ne_of_none hb nL)]
              exact ex.hh b u n hb
          · cases hb
    · rintro F' H' Γ' acc s osub a u ⟨j, hj, t', o', g1, g2, g3⟩
      refine s.ext.hh a u (fun z => ?_) g3
      obtain ⟨k, t2, o2, n, k1, k2⟩ := own_wipe hv z
      have z2 := r1.sep j k _ _ _ _ a g1 k1 g2 k2
      subst z2
      exact n (List.mem_append_right _ hj)
    · intro F' H' s ex osub
      obtain ⟨u0, hD, xs, rfl, hacc⟩ := s.at_
      obtain ⟨y1, y2, y3⟩ := rel_unw r1 hv s.rel s.ext osub
      refine q1 F' H' (.ref L) y1 (e1.trans y2) ⟨L, rfl, s.nf, fun z => ?_, ⟨xs, hD, hacc⟩, e1.back (.inr nL)⟩
      obtain ⟨_, u, hu⟩ := r1.ownF (y3 L z)
      rw [nL] at hu; cases hu
theorem do_dc {X : Cx} {c : Cf} {kx vx tg iter : Expr} {ifs : List Expr} {scope : Scope} {own : List (Str × Nat)} {pos : Pos} {src : Ev → Rs (List D × List Nat)} {g : TG} {gf : TgF} {ts : List Nat} {t : Ev → Rs Bool} {fk fv : Ev → Rs D} (hc : X.calm = true) (hN : X.N.Nodup) (hi : DI2 X c tg iter src) (ok : BlkOk X.N X.env.scope scope own)
    (hg : ∀ (s : Shared) (H : Hp) (C : Addr) (cl : List (Str × Addr)) (fp : List Addr), PG (X.blk s H scope (compEnvC scope cl C X.env) fp) tg g) (gs : GSpec c g ts gf) (hts : ∀ i ∈ ts, i ∈ own.map (·.2)) (ht : ∀ (s : Shared) (H : Hp) (C : Addr) (cl : List (Str × Addr)) (fp : List Addr), DTs (X.blk s H scope (compEnvC scope cl C X.env) fp) c.calm ifs t)
    (hk : ∀ (s : Shared) (H : Hp) (C : Addr) (cl : List (Str × Addr)) (fp : List Addr), DE (X.blk s H scope (compEnvC scope cl C X.env) fp) c.calm kx fk)
    (he : ∀ (s : Shared) (H : Hp) (C : Addr) (cl : List (Str × Addr)) (fp : List Addr), DE (X.blk s H scope (compEnvC scope cl C X.env) fp) c.calm vx fv) (hs : ∀ x, foldedSetIterable iter X.env x = pure x := by intro _; rfl) :
    DO X c (.DictComp kx vx [⟨tg, iter, ifs, 0⟩] scope pos) (compD (own.map (·.2)) src gf t fk fv) := PE.of (pe_dc hc hN hi ok hg ht hk he hs) fun σ H Q q => rd_dc gs hts q
section
variable {Γ : Ev} {vs : List Nat} {gd : TgF} {t : Ev → Rs Bool} {d1 d2 : Ev → Rs D} {srcp : Ev → Rs (List D × List Nat)} {p : List D × List Nat}
def kCompD (vs : List Nat) (gd : TgF) (t : Ev → Rs Bool) (d1 d2 : Ev → Rs D) (p : List D × List Nat) (Γ : Ev) : Rs AV := (match loopN (bodyD d1 d2) (wipeG Γ (vs ++ p.2)) gd t p.1 [] (wipeG Γ (vs ++ p.2)) with
  | some q => .ok (.own (.dct q.1)) (unw Γ q.2 (vs ++ p.2))
  | none => .bad)
theorem kCompD_ap : kCompD vs gd t d1 d2 p Γ = (match loopN (bodyD d1 d2) (wipeG Γ (vs ++ p.2)) gd t p.1 [] (wipeG Γ (vs ++ p.2)) with
  | some q => .ok (.own (.dct q.1)) (unw Γ q.2 (vs ++ p.2))
  | none => .bad) := rfl
theorem compD_ap : compD vs srcp gd t d1 d2 Γ = (srcp Γ).bind (kCompD vs gd t d1 d2) := rfl
end
end Nv
-- N28
namespace Nv
open PySem PySem.Spec PyProof.Rows L2
open Evl (Ex)
section
variable {X : Cx}
/-- sorted, from what is gathered -/
theorem sorted_from {pins : List (Addr × Obj)} {σ : L2.St} {H : Hp} {s : Shared} {v : Value} {ks : List Str} {Q : VK} (I : Inv X pins σ H s) (h64 : ks.length < 64)
    (col : ∀ R : List Value → Shared → Prop, (∀ h' tk acc, (∀ b o, s.heap.get? b = some o → h'.get? b = some o) → StrsAre acc ks → R acc { s with heap := h', toks := tk }) → wpAny (model X.prog X.w) X.A.in1 (collect v) R X.xe s)
    (q : ∀ (ys : List Str) (p : Addr), ys.Perm ks → sortedS ys = true → H p = none → Q (.ref p) (upd H p (.lst (ys.map V.str)))) :
    wpAny (model X.prog X.w) X.A (call (.builtin "sorted") [v]) (EP X pins σ Q) X.xe s := by
  refine Calls.call_function_entry PyProof.Rows.kind_sorted PyProof.Rows.plain_sorted PyProof.Rows.entry_sorted (PyProof.Rows.args_sorted1 _) ?_
  unfold Builtin.«sorted»
  refine wpAny_bind (m := checkCount "sorted" 1 1 _) (wpAny_pure ?_)
  refine wpAny_bind (col _ fun h' tk acc hk hS => ?_)
  have hal : acc.length = ks.length := hS.len_eq
  have I1 : Inv X pins σ H { s with heap := h', toks := tk } := I.kept hk
  refine wpAny_bind (wpAny_newList ?_ (by rw [hal, sizeLine_eq]; omega))
  have hoL : (h'.push (seqObj "list" acc.toArray 0)).get? h'.objs.size = some (seqObj "list" acc.toArray 0) := Heap.get?_push_size _ rfl
  show wpAny _ _ _ _ _ { s with heap := h'.push (seqObj "list" acc.toArray 0), toks := tk }
  refine wpAny_bind (wpAny_holding (wpAny_call_entry PyProof.Rows.slot_list_sort ⟨_, hoL, rfl⟩ PyProof.Rows.entry_list_sort
    (list_sort_treeK strKind_oneLt (s := { s with heap := h'.push (seqObj "list" acc.toArray 0), toks := tk }) hoL hS.keysOf (fun v₁ v₂ rest e => keyKind_strs (by rw [← e]; exact hS)) (by rw [hal]; exact h64) fun st' hp hs => ⟨_, rfl, ?_⟩)
    (PyProof.Rows.args_list_sort _)))
  obtain ⟨ys, g1, g2, g3⟩ := sorted_out_str hS hp hs
  obtain ⟨e', he'⟩ := PyProof.Rows.sortedHeap_at (vs := acc) (out := (arrOf st').map (·.2)) hoL
  have hlen : (ys.map V.str).length ≤ sizeLine := by
    rw [List.length_map, g2.length_eq]
    exact Nat.le_trans (Nat.le_of_lt h64) (by decide)
  refine wpAny_pure ⟨_, rfl, .ref h'.objs.size, upd H h'.objs.size (.lst (ys.map V.str)), I1.laid (t' := tk) (fun b u e => ?_) (Nat.le_refl _)
    (show ObjOk X.prog X.w _ _ _ (.lst (ys.map V.str)) from ⟨hlen, ((arrOf st').map (·.2)).toList, e', vals_of_strs g1, by rw [Array.toArray_toList]; exact he'⟩), rfl, q ys _ g2 g3 (I1.hok.fresh (Nat.le_refl _))⟩
  have hb : b < h'.objs.size := Heap.lt_size e
  rw [PyProof.Rows.sortedHeap_old (Nat.ne_of_lt hb) (by rw [size_push']; exact Nat.lt_succ_of_lt hb)]
  exact Heap.get?_push_of_some _ e
def rSortA (K : PySem.W.Frag) : List V → Hp → VK → Prop := fun vs H Q => ∃ (x : V) (ks : List Str), vs = [x] ∧ ks.length < 64 ∧ ((∃ a, x = .ref a ∧ (SqL K H a (ks.map V.str) ∨ SqT K H a (ks.map V.str))) ∨ ∃ z, x = .str z ∧ ks = z.cps.toList.map fun c => ⟨#[c]⟩) ∧
  ∀ (ys : List Str) (p : Addr), ys.Perm ks → sortedS ys = true → H p = none → Q (.ref p) (upd H p (.lst (ys.map V.str)))
theorem signs_at {z : Str} {acc : Array Value} (h : ItemsOf (SignAt z) acc z.cps.size) : StrsAre acc.toList (z.cps.toList.map fun c => (⟨#[c]⟩ : Str)) := by
  refine strs_at (by rw [Array.length_toList, h.1, List.length_map, Array.length_toList]) fun j v e => ?_
  have hj : acc[j]? = some v := by rw [← Array.getElem?_toList]; exact e
  obtain ⟨c, t, h1, h2⟩ := h.2 j v hj
  refine ⟨⟨#[c]⟩, t, ?_, h2⟩
  rw [List.getElem?_map, Array.getElem?_toList, h1]
  rfl
theorem cr_sortA (hc : X.calm = true) : CallR X (.builtin "sorted") (rSortA X.K) := by
  intro pins s σ H vs us Q I r h
  obtain ⟨x, ks, rfl, h64, hx, q⟩ := h
  obtain ⟨u, rfl, rx⟩ := vals1 r
  have hh : X.A.in1.handled = none := I.ok.hd hc
  rcases hx with ⟨a, rfl, hs | hs⟩ | ⟨z, rfl, rfl⟩
  · cases rx
    obtain ⟨its, rv, p, hz⟩ := I.list hs
    have hl := rv.length
    refine sorted_from I h64 (fun R k => ?_) q
    obtain ⟨o, n, ho, hcl, hd, hda⟩ := p
    exact wpAny_collect_seq a (.inl rfl) ho hcl hda (fun h' hk => k h' s.toks _ hk rv.strs) (by rw [List.size_toArray, ← hl]; exact hz)
  · cases rx
    obtain ⟨its, rv, p, hz⟩ := I.tuple hs
    have hl := rv.length
    refine sorted_from I h64 (fun R k => ?_) q
    obtain ⟨o, ho, hcl, n, hda⟩ := p
    exact wpAny_collect_seq a (.inr rfl) ho hcl hda (fun h' hk => k h' s.toks _ hk rv.strs) (by rw [List.size_toArray, ← hl]; exact hz)
  · obtain ⟨t, rfl⟩ := rx
    refine sorted_from I h64 (fun R k => wpAny_collect_str hh z t (fun s' acc hk g d o hi => ?_) ?_) q
    · obtain ⟨h', g', d', tk', os'⟩ := s'
      have eg : g' = s.gens := g
      have ed : d' = s.drawn := d
      have eo : os' = s.os := o
      subst eg; subst ed; subst eo
      exact k h' tk' _ hk (signs_at hi)
    · rw [List.length_map, Array.length_toList] at h64
      rw [sizeLine_eq]; omega
end
def leT (a b : List Nat) : Bool := !decide (b < a)
theorem leT_trans {a b c : List Nat} (h1 : leT a b = true) (h2 : leT b c = true) : leT a c = true := by
  unfold leT at *
  simp only [Bool.not_eq_true', decide_eq_false_iff_not, List.not_lt] at *
  exact List.le_trans h1 h2
theorem leT_total (a b : List Nat) : (leT a b || leT b a) = true := by
  unfold leT
  simp only [Bool.or_eq_true, Bool.not_eq_true', decide_eq_false_iff_not, List.not_lt]
  exact List.le_total a b
theorem leT_anti {a b : List Nat} (h1 : leT a b = true) (h2 : leT b a = true) : a = b := by
  unfold leT at *
  simp only [Bool.not_eq_true', decide_eq_false_iff_not, List.not_lt] at *
  exact List.le_antisymm h1 h2
def sortT (l : List (List Nat)) : List (List Nat) := l.mergeSort leT
theorem sortT_perm (l : List (List Nat)) : (sortT l).Perm l := List.mergeSort_perm l leT
theorem sortT_sorted (l : List (List Nat)) : (sortT l).Pairwise fun a b => leT a b = true := List.pairwise_mergeSort (le := leT) (fun _ _ _ h1 h2 => leT_trans h1 h2) leT_total l
theorem perm_sorted_eq : ∀ {l l' : List (List Nat)}, l.Perm l' → (l.Pairwise fun a b => leT a b = true) → (l'.Pairwise fun a b => leT a b = true) → l = l'
  | [], l', p, _, _ => (List.nil_perm.mp p).symm
  | a :: l, [], p, _, _ => absurd p.length_eq (by simp)
  | a :: l, b :: l', p, h1, h2 => by
    obtain ⟨h3, h4⟩ := List.pairwise_cons.mp h1
    obtain ⟨h5, h6⟩ := List.pairwise_cons.mp h2
    have e : a = b := by
      have m1 : b ∈ a :: l := p.mem_iff.mpr List.mem_cons_self
      have m2 : a ∈ b :: l' := p.mem_iff.mp List.mem_cons_self
      rcases List.mem_cons.mp m1 with e | m1
      · exact e.symm
      · rcases List.mem_cons.mp m2 with e | m2
        · exact e
        · exact leT_anti (h3 b m1) (h5 a m2)
    subst e
    rw [perm_sorted_eq (List.Perm.cons_inv p) h4 h6]
theorem risingS_pw : ∀ (p : Str) (l : List Str), risingS p l = true → (p :: l).Pairwise fun a b => leT a.cps.toList b.cps.toList = true
  | p, [], _ => List.pairwise_singleton _ _
  | p, x :: l, h => by
    unfold risingS at h
    rw [Bool.and_eq_true] at h
    have h2 := risingS_pw x l h.2
    have h1 : leT p.cps.toList x.cps.toList = true := by unfold leT; rw [← ltCps_eq]; exact h.1
    refine List.pairwise_cons.mpr ⟨fun y hy => ?_, h2⟩
    rcases List.mem_cons.mp hy with e | hy
    · rw [e]; exact h1
    · exact leT_trans h1 ((List.pairwise_cons.mp h2).1 y hy)
theorem sortedS_pw : ∀ {l : List Str}, sortedS l = true → l.Pairwise fun a b => leT a.cps.toList b.cps.toList = true
  | [], _ => .nil
  | x :: l, h => risingS_pw x l h
def sortS (l : List Str) : List Str := (sortT (l.map TL.tl)).map SX.S
theorem sortS_eq {ys ks : List Str} (p : ys.Perm ks) (h : sortedS ys = true) : ys = sortS ks := by
  unfold sortS
  have h1 : (ys.map TL.tl) = sortT (ks.map TL.tl) := by
    refine perm_sorted_eq ((p.map TL.tl).trans (sortT_perm _).symm) ?_ (sortT_sorted _)
    rw [List.pairwise_map]
    exact sortedS_pw h
  rw [← h1, List.map_map]
  conv => lhs; rw [← List.map_id ys]
  exact List.map_congr_left fun x _ => (SX.S_tl x).symm
theorem sortS_S (l : List (List Nat)) : sortS (l.map SX.S) = (sortT l).map SX.S := by
  unfold sortS
  rw [List.map_map]
  congr 2
  conv => rhs; rw [← List.map_id l]
  exact List.map_congr_left fun x _ => by show (TL.tl (SX.S x)) = x; rfl
theorem sortS_perm (l : List Str) : (sortS l).Perm l := by
  unfold sortS
  have := (sortT_perm (l.map TL.tl)).map SX.S
  refine this.trans ?_
  rw [List.map_map]
  conv => rhs; rw [← List.map_id l]
  exact List.Perm.of_eq (List.map_congr_left fun x _ => SX.S_tl x)
/-- what sorted is told of: lists and tuples of texts, texts -/
def txtsOf : D → Option (List Str)
  | .lst l => strsO l
  | .tup l => strsO l
  | .fz l => strsO l
  | .str z => some (z.cps.toList.map fun c => ⟨#[c]⟩)
  | _ => none
def gSort (d : D) : Option AV := match txtsOf d with
  | some ks => if ks.length < 64 then some (.own (.lst ((sortS ks).map .str))) else none
  | none => none
theorem os_sort {M : Md} : OpS M (rSortA M.K) (gA1 gSort) := opS1 fun F H x d av Q sub r1 e h => by
  unfold gSort at e
  split at e
  · rename_i ks hk
    split at e
    · rename_i hl
      cases e
      have fin : ks.all PyData.strOk = true → ∀ (ys : List Str) (p : Addr), ys.Perm ks → sortedS ys = true → H p = none → Q (.ref p) (upd H p (.lst (ys.map V.str))) := fun ok ys p hp hs hn => by
        rw [sortS_eq hp hs]
        refine fin_lst sub h hn (Reps.mkStrs ?_)
        rw [List.all_eq_true] at ok ⊢
        exact fun z hz => ok z ((sortS_perm ks).mem_iff.mp hz)
      unfold txtsOf at hk
      split at hk
      · rename_i l
        obtain ⟨a, xs, rfl, h1, h2⟩ := r1_lst r1
        rw [strsO_eq hk] at h2
        obtain ⟨h3, h4⟩ := h2.strs
        subst h3
        exact ⟨_, ks, rfl, hl, .inl ⟨a, rfl, .inl (SqL.of h1)⟩, fin h4⟩
      · rename_i l
        obtain ⟨a, xs, rfl, h1, h2⟩ := r1_tup r1
        rw [strsO_eq hk] at h2
        obtain ⟨h3, h4⟩ := h2.strs
        subst h3
        exact ⟨_, ks, rfl, hl, .inl ⟨a, rfl, .inr (Evl.ex_t sub h1)⟩, fin h4⟩
      · rename_i l
        obtain ⟨a, xs, rfl, h1, h2⟩ := r1_fz r1
        rw [strsO_eq hk] at h2
        obtain ⟨h3, h4⟩ := h2.strs
        subst h3
        exact ⟨_, ks, rfl, hl, .inl ⟨a, rfl, .inl (Evl.ex_l sub h1)⟩, fin h4⟩
      · rename_i z
        obtain ⟨rfl, ok⟩ := r1_str r1
        cases hk
        refine ⟨_, _, rfl, hl, .inr ⟨z, rfl, rfl⟩, fin ?_⟩
        rw [List.all_eq_true]
        intro w hw
        obtain ⟨n, hn, rfl⟩ := List.mem_map.mp hw
        exact strOk_mem ok hn
      · cases hk
    · cases e
  · cases e
theorem strOk_ofString (z : String) : PyData.strOk (Str.ofString z) = true := by
  show (Array.all _ _) = true
  rw [← Array.all_toList]
  show (cpsOfBytes 0 0 z.toByteArray.data.toList).all _ = true
  rw [cpsOfBytes_string, List.all_map, List.all_eq_true]
  intro c _
  have h := c.valid
  simp only [UInt32.isValidChar, Nat.isValidChar] at h
  have : c.toNat = c.val.toNat := rfl
  simp only [Function.comp, decide_eq_true_eq]
  omega
def gStr : D → Option AV
  | .str z => some (.dat (.str z))
  | .int i => if i.natAbs.log2 < 1920 then some (.dat (.str (Str.ofString (toString i)))) else none
  | _ => none
def rStrA : List V → Hp → VK → Prop := fun xs H Q => (∃ a, xs = [.str a] ∧ Q (.str a) H) ∨ ∃ i, xs = [.int i] ∧ i.natAbs.log2 < 1920 ∧ Q (.str (toString i)) H
theorem call_strA {X : Cx} : CallR X (.type "str") rStrA := SkE.call_str_str.or call_str_int
theorem os_str {M : Md} : OpS M rStrA (gA1 gStr) := opS1 fun F H x d av Q sub r1 e h => by
  unfold gStr at e
  split at e
  · cases e
    obtain ⟨rfl, ok⟩ := r1_str r1
    exact .inl ⟨_, rfl, fin_dat sub h (rep_str.mpr ⟨rfl, ok⟩)⟩
  · split at e
    · rename_i hz
      cases e
      cases r1_int r1
      exact .inr ⟨_, rfl, hz, fin_dat sub h (rep_str.mpr ⟨rfl, strOk_ofString _⟩)⟩
    · cases e
  · cases e
section
variable {X : Cx} {c : Cf} {e : Expr} {es : List Expr} {pos p : Pos} {f : Ev → Rs (List OV)}
theorem do_str (hm : X.mg "str" = none) (ha : DA X c (e :: es) f) (hg : Gl X "str" := by rfl) (he : starEach (e :: es) X.env = (false, eval e X.env) :: starEach es X.env := by rfl) (hpl : (backTo pos (starEach es X.env)).any (·.1) = false := by rfl) : DO X c (.Call (.Name "str" p) (e :: es) [] pos) (opA (gA1 gStr) f) :=
  do_callTy call_strA os_str hm ha (hg := hg) (he := he) (hpl := hpl)
end
end Nv
-- N29
namespace Nv
open PySem PySem.Spec PyProof.Rows L2 NdefX
open Evl (Ex)
/-- what the written part says of an error's own __init__ that asks super() -/
structure SupF (P : Program) (K : PySem.W.Frag) (D f c cc : Addr) (qual : Str) (params : Arguments) (body : List Stmt) (scope : Scope) (fd : FuncData) : Prop where
  fn : ∃ (oc : Value) (od : Option Addr) (kV doc pm ct : Value) (an : Option Addr) (osl : Array (Option Value)), fd = PySem.W.fnX "__init__" qual params body scope [("__class__", cc)] .none kV doc pm an (.ref c) ct ∧ K.lookup f = some ⟨oc, od, .func fd, osl⟩
  cd : PySem.W.codeIn K (.ref c) qual = true
  fl : ∃ (ccl : Value) (cdd : Option Addr) (vs : Array Value) (ccs : Array (Option Value)) (file : Str) (tf : Tok), K.lookup c = some ⟨ccl, cdd, .fields vs, ccs⟩ ∧ vs[2]? = some (.str file tf) ∧ ((P.main.file : Str) == file) = true
  cl : ∃ (x : Value) (y : Option Addr) (z : Array (Option Value)), K.lookup cc = some ⟨x, y, .cell (some (.ref D)), z⟩
  cls : ∃ cd, PySem.W.clsIn K D = some cd
  top : (P.main.scope.names.lookup ("super" : Str)).isSome = false
  sup : PySem.W.ks_superIn K D D "__init__" = some (some (.builtin "ValueError.__init__"))
  mro : PySem.W.mroIn K D (.ref D) = some true
  ve : PySem.W.subIn K (.ref D) (.type "ValueError") = some true
  opq : PySem.W.nsIn K cStatics "thirdparty.any" = some none
/-- how super().__init__(m) is read (it hangs on the lines where it stands) -/
structure SupEv (env : Env) (p0 p1 p2 p3 p4 : Pos) (m : Str) (j : Nat) : Prop where
  ex : ∃ pl : Sem Bool, eval (.Call (.Attribute (.Call (.Name "super" p0) [] [] p1) "__init__" p2) [.Constant (.str m) j p3] [] p4) env = (do
    let ov ← attributeBase (.Call (.Name "super" p0) [] [] p1) "__init__" env (eval (.Call (.Name "super" p0) [] [] p1) env)
    standAt p2.atName
    let (f, first) ← holding [ov] (getMethod ov "__init__" pl)
    callWith p4 f first (backTo p4 (starEach [.Constant (.str m) j p3] env)) [])
section
variable {X : Cx} {pins : List (Addr × Obj)} {σ : L2.St} {H : Hp} {s : Shared} {a D f c cc : Addr} {qual : Str} {params : Arguments} {body body' : List Stmt} {scope : Scope} {fd : FuncData}
theorem sup_stmt {p0 p1 p2 p3 p4 p5 : Pos} {m : Str} {j : Nat} {ar : Arg} {E : Value → Shared → Prop} {Q : Flow → Shared → Prop} (S : SupF X.prog X.K D f c cc qual params body' scope fd) (T : OexC X.K D) (I : Inv X pins σ H s)
    (he : ∃ L, X.env = PySem.W.envX qual scope L f (.ref c) [("__class__", cc)]) (hp : (params.posonlyargs ++ params.args).head? = some ar) (h0 : X.N[0]? = some ar.arg) (hv : σ[0]? = some (some (.ref a))) (e : H a = some (exo a D none))
    (ks : scope.names.lookup ("super" : Str) = some .globalImplicit) (kc : scope.names.lookup ("__class__" : Str) = some .free) (ka : scope.names.lookup ar.arg = some .local) (hm : X.mg "super" = none)
    (hev : SupEv X.env p0 p1 p2 p3 p4 m j) (hsw : swapsWith (.Call (.Attribute (.Call (.Name "super" p0) [] [] p1) "__init__" p2) [.Constant (.str m) j p3] [] p4) none p5.line X.env = pure false)
    (hq : ∀ s', Inv X pins σ H s' → Q .next s') :
    _root_.PySem.wpAt (model X.prog X.w) X.A (.func body X.env) (exec (.Expr (.Call (.Attribute (.Call (.Name "super" p0) [] [] p1) "__init__" p2) [.Constant (.str m) j p3] [] p4) p5) X.env) Q E s := by
  obtain ⟨L, he⟩ := he
  obtain ⟨oc, od, kV, doc, pm, ct, an, osl, rfl, lk⟩ := S.fn
  obtain ⟨ccl, cdd, vs, ccs, file, tf, lc, hvs, hfile⟩ := S.fl
  obtain ⟨x1, x2, x3, lcell⟩ := S.cl
  obtain ⟨cdD, hcD⟩ := S.cls
  obtain ⟨t1, ho⟩ := exo_at I.hok e
  have hnew := T.cls
  obtain ⟨nm, q, N, bs, bm, sn, sub, ab, col, dd, k0, k1, k2, k3, k5, hC, hbm⟩ := hnew
  have K0 := I.kIn
  have kf : X.env.scope.kind = .function := I.ok.kind
  have es : X.env.scope = scope := by rw [he]
  have kks : X.env.kindOf "super" = some .globalImplicit := by rw [he]; exact ks
  have kkc : X.env.kindOf "__class__" = some .free := by rw [he]; exact kc
  have kka : X.env.kindOf ar.arg = some .local := by rw [he]; exact ka
  obtain ⟨mL, hns, hlk⟩ := I.loc
  have hself : mL ar.arg = some (.ref a) := by
    obtain ⟨u, ru, z⟩ := hlk 0 ar.arg (.ref a) h0 hv (.inl (by rw [es]; exact ka))
    cases ru
    rcases z with ⟨_, z⟩ | ⟨k, _⟩
    · exact z
    · rw [kka] at k
      rcases k with k | k <;> cases k
  have inst : PySem.W.InstAt s.heap a { cls := .ref D, dict := none, data := .fields #[.ref t1, .none, .none, .none, .bool false, .none] } D none := ⟨ho, rfl, rfl, trivial⟩
  have hInst : PySem.W.Looks (model X.prog X.w) s.heap (isInstance (.ref a) (.type "ValueError")) true := inst.type.andThen (PySem.W.looks_subIn K0 S.ve)
  have ne := PySem.W.ks_ne K0 inst hcD
  obtain ⟨oD, hD1, hD2⟩ : ∃ oD, s.heap.get? D = some oD ∧ oD.data = .cls cdD := by
    unfold PySem.W.clsIn at hcD
    split at hcD
    · rename_i c' d' cd' sl' h'
      cases hcD
      exact ⟨_, K0 _ _ h', rfl⟩
    · cases hcD
  refine ks_wpAt_Expr_any (ks_wpAt_MethodCall ?_ hev.ex.choose_spec) I.quiet hsw
  refine ks_wpAt_super_base (f := f) (cc := c) kks kkc rfl (by rw [he]) (K0 _ _ lk) rfl hp (by rw [he]) (K0 _ _ lc) rfl hvs hfile S.top ?_
  obtain ⟨mb, hb1, hb2⟩ := I.mod.blt
  refine PySem.W.ks_loadName_global kf kks (Calls.loadGlobal_builtin (by rw [I.ok.glob]; exact I.mod.glob.keeps I.bk) hm (by rw [I.ok.blt]; exact hb1.keeps I.bk) ((hb2 _ (by decide)).trans (show bootBuiltins "super" = some (.type "super") by decide +kernel)) ⟨rfl, ?_⟩)
  refine wpAny_loadName_free (c := cc) kf kkc (by rw [he]; rfl) ⟨_, K0 _ _ lcell, rfl⟩ ?_
  refine wpAny_loadName_local kf kka hns hself ?_
  refine ks_wpAny_isType_cls hD1 hD2 ⟨rfl, ?_⟩
  obtain ⟨hh, g, d, t, os⟩ := s
  refine ks_wpAny_call_super hD1 hD2 inst.at_ inst.cls (fun c e => by cases e) (PySem.W.looks_mroIn K0 S.mro) (fun h' eso k => ?_)
  have I1 : Inv X pins σ H ⟨h', g, d, t, os⟩ := I.kept (t' := t) k
  have K1 := I1.kIn
  have hal := S.sup
  unfold PySem.W.ks_superIn at hal
  rw [hcD, Option.bind_some] at hal
  have inst1 : PySem.W.InstAt h' a _ D none := ⟨k _ _ ho, rfl, rfl, trivial⟩
  have hI1 : PySem.W.Looks (model X.prog X.w) h' (isInstance (.ref a) (.type "ValueError")) true := inst1.type.andThen (PySem.W.looks_subIn K1 S.ve)
  refine PySem.W.kxs_getMethod PySem.W.kxs_ValueError eso (PySem.W.looks_opaque K1 S.opq) (l₀ := cdD.mro) (fun A Q E s k q => wpAny_bind ((PySem.W.looks_clsIn K1 hcD) A _ E s k (wpAny_pure q))) rfl K1 hal hI1 ne rfl ?_
  have k2 : ∀ b o, h'.get? b = some o → (h'.push (PySem.W.kxs_mw "ValueError.__init__" a)).get? b = some o := fun b o q => Heap.get?_push_of_some _ q
  have hu : (h'.push (PySem.W.kxs_mw "ValueError.__init__" a)).get? h'.objs.size = some (PySem.W.kxs_mw "ValueError.__init__" a) := Heap.get?_push_at rfl rfl
  have I2 : Inv X pins σ H ⟨h'.push (PySem.W.kxs_mw "ValueError.__init__" a), g, d, t + 1, os⟩ := I1.kept (t' := t + 1) k2
  refine PySem.W.kxs_callWith (i := "ValueError.__init__") (x := a) rfl (Calls.evalArgs_plain ?_)
  refine Calls.spliced_cons ((Calls.Constant_str (k := j) (pos := p3) (Calls.spliced_nil ?_)))
  refine ⟨hu, ?_⟩
  have hC2 := I2.kIn _ _ hC
  refine wpAny_call (codeAny_of_tree ?_)
  show wpAny _ _ (callAny (.ref h'.objs.size) ⟨_, []⟩) _ _ _
  simp only [callAny]
  refine wpAny_bind (wpAny_load hu ?_)
  simp only [PySem.W.kxs_mw, show (Value.type "method-wrapper" == Value.type "method" || Value.type "method-wrapper" == Value.type "builtin_function_or_method" || Value.type "method-wrapper" == Value.type "method-wrapper") = true by decide, if_true]
  refine PySem.W.KFB.if_so (by decide) ?_
  refine wpAny_bind (PySem.W.check_bound_init F.excBase_ValueError.toExcCallFacts hC2 (k2 _ _ (k _ _ ho)) rfl ?_)
  refine wpAny_bind (wpAny_pure (wpAny_pure ?_))
  refine ⟨plainId_quiet F.excBase_ValueError.init.plain _, codeAny_builtin F.excBase_ValueError.initEntry ?_⟩
  refine PySem.W.exc_init_tree (cls := .ref D) (t0 := t1) (dv := none) (c2 := .none) (c3 := .none) (b4 := .bool false) (k2 _ _ (k _ _ ho)) (by show 1 ≤ sizeLine; rw [sizeLine_eq]; omega) fun h3 k3 e3 _ => ?_
  have J := I2.write (t' := t + 1 + 1) (x := a) (e := a) (o := exo a D none) (by rw [e]; exact True.intro) (.inl rfl) k3 ⟨_, e3⟩ (exo_ok e3)
  have eu : upd H a (exo a D none) = H := upd_id e
  rw [eu] at J
  exact hq _ J
end
/-- super().__init__(m), then the rest -/
structure SupB (env : Env) (body rest : List Stmt) : Prop where
  ex : ∃ (p0 p1 p2 p3 p4 p5 : Pos) (m : Str) (j : Nat), body = .Expr (.Call (.Attribute (.Call (.Name "super" p0) [] [] p1) "__init__" p2) [.Constant (.str m) j p3] [] p4) p5 :: rest ∧ SupEv env p0 p1 p2 p3 p4 m j ∧
    swapsWith (.Call (.Attribute (.Call (.Name "super" p0) [] [] p1) "__init__" p2) [.Constant (.str m) j p3] [] p4) none p5.line env = pure false
def supNF (qual : Str) (params : Arguments) (body : List Stmt) (scope : Scope) (cc c : Addr) : NF := ⟨"__init__", qual, params, body, scope, [("__class__", cc)], c⟩
/-- what such an __init__ promises: t the reading of what follows super().__init__ -/
def spSup (K : PySem.W.Frag) (D : Addr) (N ps : List Str) (t : TS) : Sp := fun vs H Q _ => vs.length = ps.length ∧ ∃ (a : Addr) (tl : List V), vs = .ref a :: tl ∧ H a = some (exo a D none) ∧ OexC K D ∧ t { nx := fun _ H' => Q .non H', rt := Q } (startF N vs [some (.ref D)]) H
section
variable {P : Program} {w : World} {K : PySem.W.Frag} {mg : Str → Option Value} {base : Heap} {D f c cc : Addr} {qual : Str} {params : Arguments} {body rest : List Stmt} {scope : Scope} {fd : FuncData} {N ps : List Str} {k : Nat} {CX : CXT} {ar : Arg} {t : TS}
theorem fn_sup (S : SupF P K D f c cc qual params body scope fd) (NS : NScope N ps ["__class__"] scope) (hp : (params.posonlyargs ++ params.args).head? = some ar) (h0 : ps[0]? = some ar.arg) (hm : mg "super" = none)
    (ks : scope.names.lookup ("super" : Str) = some .globalImplicit) (hb : ∀ env, SupB env body rest)
    (hr : ∀ (A : Around) (outer : List Env) (s : Shared) (H : Hp) (E : XK), PSs (ncx CX P w K mg base N (supNF qual params body scope cc c) f A outer s H E) rest t) : FnOk P w K mg base CX (k + 1) f fd ps (spSup K D N ps t) := by
  obtain ⟨oc, od, kV, doc, pm, ct, an, osl, rfl, lk⟩ := S.fn
  obtain ⟨x1, x2, x3, lcell⟩ := S.cl
  refine ⟨fun vs H Q E h => h.1, fun A outer s H args us vs Q E rm e0 hbd r hsp => ?_⟩
  obtain ⟨hl, a, tl, ev, ha, T, q⟩ := hsp
  have KX : K.In s.heap := e0.mod.kin.keeps fun b o e => (e0.bs b o e).1
  have lim : s.heap.NoLimit := e0.mod.nolimit.keeps fun b o e => (e0.bs b o e).1
  have ka : scope.names.lookup ar.arg = some .local := NS.par _ (List.mem_of_getElem? h0)
  have h1 : 0 < ps.length := (List.getElem?_eq_some_iff.mp h0).1
  have hN0 : N[0]? = some ar.arg := by
    have h2 : (ps ++ [("__class__" : Str)])[0]? = some ar.arg := (List.getElem?_append_left h1).trans h0
    rw [← NS.pre, List.getElem?_take_of_lt (by omega)] at h2
    exact h2
  subst ev
  have hC : CellsAt [(("__class__" : Str), cc)] ["__class__"] [some (.ref D)] s.heap H := by
    refine ⟨rfl, fun y z e => ?_, fun x y z e1 e2 => ?_, fun i y e => ?_⟩
    · have hz := PySem.mem_of_lookup e
      rw [List.mem_singleton] at hz
      cases hz
      exact ⟨(e0.bs _ _ (e0.mod.kin _ _ lcell)).2, _, _, KX _ _ lcell, rfl⟩
    · have z1 := PySem.mem_of_lookup e1
      have z2 := PySem.mem_of_lookup e2
      rw [List.mem_singleton] at z1 z2
      cases z1; cases z2; rfl
    · have hi : i = 0 := by
        have := (List.getElem?_eq_some_iff.mp e).1
        simpa using this
      subst hi
      cases e
      refine ⟨cc, rfl, fun v ev => ?_⟩
      cases ev
      exact ⟨.ref D, rfl, _, KX _ _ lcell, rfl⟩
  refine ks_codeAny_call_defAt (body := body) (binds := ps.zip us) rm.depth (KX _ _ lk) rfl lim (PySem.W.codeRec_of KX S.cd) rfl hbd NS.nocell (fun ⟨n, _⟩ hy => NS.par n (List.of_mem_zip hy).1) (fun h₁ hns kp => ?_) NS.co NS.gen NS.kind
  have I : Inv (ncx CX P w K mg base N (supNF qual params body scope cc c) f A outer s H E) [] (startF N (.ref a :: tl) [some (.ref D)]) H { s with heap := h₁, toks := s.toks + (ps.zip us).length } := inv_startN NS rm.hd e0 hl r hC hns kp
  obtain ⟨p0, p1, p2, p3, p4, p5, m, j, eb, hev, hsw⟩ := (hb (ncx CX P w K mg base N (supNF qual params body scope cc c) f A outer s H E).env).ex
  have hq := (hr A outer s H E).run [] 
  show _root_.PySem.wpAt _ _ _ (execs body (ncx CX P w K mg base N (supNF qual params body scope cc c) f A outer s H E).env) _ _ _
  rw [show execs body (ncx CX P w K mg base N (supNF qual params body scope cc c) f A outer s H E).env = execs (_ :: rest) (ncx CX P w K mg base N (supNF qual params body scope cc c) f A outer s H E).env from by rw [eb]]
  refine ks_wpAt_execs_cons (sup_stmt (X := ncx CX P w K mg base N (supNF qual params body scope cc c) f A outer s H E) S T I ⟨_, rfl⟩ hp hN0 rfl ha ks (NS.frk _ (by simp)) ka hm hev hsw fun s' J => wpAt_of_wpAny ?_)
  refine wpAny_mono ((hr A outer s H E).run [] s' _ H _ J q) (fun fl s2 hs => ?_) fun e s2 hs => hs
  have fin : ∀ {σ' : L2.St} {H' : Hp} {v : V} {u : Value}, Inv (ncx CX P w K mg base N (supNF qual params body scope cc c) f A outer s H E) [] σ' H' s2 → RelV v u → Q v H' → CE outer P w H s Q u s2 :=
    fun {σ' H' v u} J rv q => ⟨v, H', J.os, J.bare, J.base, J.hok, rv, q⟩
  cases fl with
  | ret u =>
    obtain ⟨v, σ', H', J, rv, q⟩ := hs
    exact fin J rv q
  | next =>
    obtain ⟨σ', H', J, q⟩ := hs
    exact fin (v := V.non) (u := Value.none) J rfl q
  | brk =>
    obtain ⟨_, _, _, q⟩ := hs
    exact False.elim q
  | cont =>
    obtain ⟨_, _, _, q⟩ := hs
    exact False.elim q
end
end Nv
-- N30
namespace Nv
open PySem PySem.Spec PyProof.Rows L2 NdefX
open Evl (Ex)
/-- how the state lies behind an error's __init__ -/
def EndE (a C : Addr) (Hx : Hp) (fs : List (Str × V)) (H2 : Hp) : Prop := (fs = [] ∧ H2 = Hx) ∨
  (fs ≠ [] ∧ ∃ d : Addr, Hx d = none ∧ d ≠ a ∧ H2 a = some (exo a C (some d)) ∧ H2 d = some (exd d fs) ∧ ∀ b, b ≠ a → b ≠ d → H2 b = Hx b)
/-- t lays the fields ns -/
def FldsT (K : PySem.W.Frag) (C : Addr) (N ps : List Str) (t : TS) (ns : List Str) : Prop := ∀ (a : Addr) (ys : List V) (Hx : Hp) (E : XK), ys.length = ns.length → Hx a = some (exo a C none) →
  spSup K C N ps t (.ref a :: ys) Hx (fun v H2 => v = .non ∧ EndE a C Hx (ns.zip ys).reverse H2) E
section
variable {K : PySem.W.Frag} {C : Addr} {N : List Str} {s y f g : Str}
theorem flds1 (T : OexC K C) (hf : PySem.W.findIn K (.ref C) f = some none) : FldsT K C N [s, y] (tOst K f (tVar 0) (tVar 1)) [f] := fun a ys Hx E hl ha => by
  match ys, hl with
  | [v], _ =>
    refine ⟨rfl, a, [v], rfl, ha, T, v, rfl, .ref a, rfl, a, C, rfl, T, hf, .inl ⟨ha, fun d hd na => ⟨rfl, .inr ⟨by simp, d, hd, na, upd_same, ?_, fun b n1 n2 => ?_⟩⟩⟩⟩
    · rw [upd_ne na, upd_same]; rfl
    · rw [upd_ne n1, upd_ne n2]
theorem flds2 {z : Str} (T : OexC K C) (hf : PySem.W.findIn K (.ref C) f = some none) (hg : PySem.W.findIn K (.ref C) g = some none) :
    FldsT K C N [s, y, z] (tSeq (tOst K f (tVar 0) (tVar 1)) (tOst K g (tVar 0) (tVar 2))) [f, g] := fun a ys Hx E hl ha => by
  match ys, hl with
  | [v, u], _ =>
    refine ⟨rfl, a, [v, u], rfl, ha, T, v, rfl, .ref a, rfl, a, C, rfl, T, hf, .inl ⟨ha, fun d hd na => ⟨u, rfl, .ref a, rfl, a, C, rfl, T, hg, .inr ⟨d, [(f, v)], upd_same, ?_, by simp, rfl, .inr ⟨by simp, d, hd, na, ?_, upd_same, fun b n1 n2 => ?_⟩⟩⟩⟩⟩
    · rw [upd_ne na, upd_same]
    · rw [upd_ne (Ne.symm na), upd_same]
    · rw [upd_ne n2, upd_ne n1, upd_ne n2]
end
theorem passes_none {X : Cx} : Passes (L2.CX X.prog X.w) X (fun _ _ _ => False) := fun _ _ _ _ _ _ _ c => by
  obtain ⟨_, _, _, _, _, _, _, _, _, _, _, _, h⟩ := c
  exact h.elim
section
variable {X : Cx} {pins : List (Addr × Obj)} {σ : L2.St} {H1 H2 : Hp} {Q : XK}
/-- an error without fields is let go -/
theorem mk_endN {hp hp2 h2 : Heap} {g1 g2 : Array GenState} {d1 d2 : Drawn} {t1 t2 : Nat} {os1 os2 : OsState} {a C : Addr} (T : Raises X (.ref C)) (I1 : Inv X pins σ H1 ⟨hp, g1, d1, t1, os1⟩) (ha : hp.objs.size ≤ a)
    (k : ∀ b o, hp.get? b = some o → hp2.get? b = some o) (un : Un (frs X.stack) [] (upd H1 a (exo a C none)) (upd H1 a (exo a C none)) hp2 h2) (hok : HOk X.prog X.w (upd H1 a (exo a C none)) h2) (ho : os2 = os1) (hb : AllBare g2) (q : Q (.ref C) none H1) :
    MkP X pins σ Q (.ref a) ⟨h2, g2, d2, t2, os2⟩ := by
  have hn : H1 a = none := I1.hok.fresh ha
  obtain ⟨t0, hoe⟩ := exo_at hok (e := a) (C := C) (d := none) upd_same
  obtain ⟨G, r1, r2⟩ := restrict h2 fun b => decide (b ≠ a)
  have gk : ∀ b, b ≠ a → G.get? b = h2.get? b := fun b hb => r1 b (decide_eq_true hb)
  have ge : G.get? a = none := r2 a (by simp)
  have nha : ∀ {b : Addr} {o : Obj}, hp.get? b = some o → b ≠ a := fun {b o} z => Nat.ne_of_lt (Nat.lt_of_lt_of_le (Heap.lt_size z) ha)
  have ue : ∀ {b : Addr}, b ≠ a → upd H1 a (exo a C none) b = H1 b := fun {b} h => upd_ne h
  have U : Un (frs X.stack) [] H1 H1 hp G := {
    keep := fun b o z n f x => by rw [gk b (nha z)]; exact un.keep b o (k b o z) (by rw [ue (nha z)]; exact n) f x
    slot := fun b o z n f x => by rw [gk b (nha z)]; exact un.slot b o (k b o z) (by rw [ue (nha z)]; exact n) f x
    free := fun b o z n x => n
    there := fun b o z x => by rw [gk b (nha z)]; exact un.there b o (k b o z) x
    tups := fun b xs z => z
    frzs := fun b o v z => z
    tbls := fun b ps z => ⟨#[], by rw [z]; simp⟩ }
  have hokG : HOk X.prog X.w H1 G := fun b o z => by
    have hba : b ≠ a := fun e => by rw [e, hn] at z; cases z
    have noa : ∀ {c : Addr}, H1 c = some (.own b) → c ≠ a := fun {c} hc e => by rw [e, hn] at hc; cases hc
    have z' : upd H1 a (exo a C none) b = some o := by rw [ue hba]; exact z
    refine (hok b o z').stay (fun c v hc y => ?_) (fun c hc => ?_) (fun c xs hc => ?_)
    · have hca : c ≠ a := by
        rcases hc with hc | hc
        · rw [hc]; exact hba
        · exact at_ne (upd_same (H := H1) (o := exo a C none)) hc exo_own
      rw [gk c hca]; exact y
    · rw [ue (at_ne (upd_same (H := H1) (o := exo a C none)) hc exo_own)] at hc; exact hc
    · rw [ue (at_ne (upd_same (H := H1) (o := exo a C none)) hc exo_tup)] at hc; exact hc
  have J : Inv X pins σ H1 ⟨G, g2, d2, t2, os2⟩ := I1.call' (ch := []) ho U hokG hb (fun b z => absurd z (by simp))
  refine ⟨a, _, _, ⟨G, g2, d2, t2, os2⟩, H1, .ref C, none, rfl, J, fun b o z => ?_, ge, hoe, ⟨rfl, rfl⟩, rfl, rfl, hn, rfl, hb, T, q⟩
  by_cases hba : b = a
  · rw [hba, ge] at z; cases z
  · exact (gk b hba).symm.trans z
end
/-- an error's class that can be made: n its name, ns its fields, k how deep -/
structure ErrMk (P : Program) (w : World) (K : PySem.W.Frag) (mg : Str → Option Value) (base : Heap) (k : Nat) (n : Str) (ns : List Str) : Prop where
  ex : ∃ (C fI : Addr) (fd : FuncData) (N ps : List Str) (t : TS), mg n = some (.ref C) ∧ OexC K C ∧ PySem.W.findIn K (.ref C) "__init__" = some (some (.ref fI)) ∧ PySem.W.typeIn K (.ref fI) = some (.type "function") ∧
    FnOk P w K mg base (L2.CX P w) k fI fd ps (spSup K C N ps t) ∧ Binds K fd ps [] ∧ FldsT K C N ps t ns
/-- n(..): the error is made -/
def tErr (C : Addr) (ns : List Str) (ta : TA) : L2.St → Hp → XK → Prop := fun σ H Q => ta σ H fun vs H1 => vs.length = ns.length ∧ ns.length ≤ 900 ∧ (ns = [] → Q (.ref C) none H1) ∧ (ns ≠ [] → ∀ d, H1 d = none → Q (.ref C) (some d) (upd H1 d (.xd (ns.zip vs).reverse)))
section
variable {X : Cx} {pins : List (Addr × Obj)} {σ : L2.St} {H1 : Hp} {Q : XK} {C fI : Addr} {fd : FuncData} {N ps : List Str} {t : TS} {ns : List Str} {k : Nat} {us : List Value} {vs : List V} {s1 : Shared}
theorem run_err (T : OexC X.K C) (iC : PySem.W.findIn X.K (.ref C) "__init__" = some (some (.ref fI))) (tI : PySem.W.typeIn X.K (.ref fI) = some (.type "function")) (F1 : FnOk X.prog X.w X.K X.mg X.base (L2.CX X.prog X.w) k fI fd ps (spSup X.K C N ps t))
    (hb : Binds X.K fd ps []) (hF : FldsT X.K C N ps t ns) (hr : Room (k + 1) X.A) (I1 : Inv X pins σ H1 s1) (r1 : Vals vs us) (hl : vs.length = ns.length) (hz : ns.length ≤ 900) (q0 : ns = [] → Q (.ref C) none H1) (q1 : ns ≠ [] → ∀ d, H1 d = none → Q (.ref C) (some d) (upd H1 d (.xd (ns.zip vs).reverse))) :
    wpAny (model X.prog X.w) X.A (call (.ref C) us) (MkP X pins σ Q) X.xe s1 := by
  have TC := T
  obtain ⟨nm, qn, NC, bs, bm, sn, sub, ab, col, dd, k0, k1, k2, k3, k5, hC, hbm⟩ := T.cls
  obtain ⟨hp, g, dr, tk, os⟩ := s1
  generalize ea : hp.objs.size + 1 = a
  have hsz : hp.objs.size ≤ a := by omega
  have hn : H1 a = none := I1.hok.fresh hsz
  have kk : ∀ b o, hp.get? b = some o → ((hp.push (PySem.W.kdv_tup us)).push (PySem.HandSPX.excO C hp.objs.size)).get? b = some o := fun b o e => Heap.get?_push_of_some _ (Heap.get?_push_of_some _ e)
  have hget : ((hp.push (PySem.W.kdv_tup us)).push (PySem.HandSPX.excO C hp.objs.size)).get? a = some (PySem.HandSPX.excO C hp.objs.size) := by
    subst ea
    heap_get
  have I2 : Inv X pins σ (upd H1 a (exo a C none)) ⟨(hp.push (PySem.W.kdv_tup us)).push (PySem.HandSPX.excO C hp.objs.size), g, dr, tk, os⟩ := I1.laid (t' := tk) (a := a) (o := exo a C none) kk hsz (exo_ok hget)
  have hsp := hF a vs (upd H1 a (exo a C none)) (fun _ _ _ => False) hl upd_same
  have r2 : Vals (V.ref a :: vs) (Value.ref a :: us) := .cons rfl r1
  have hlen : (Value.ref a :: us).length = ps.length := r2.length.symm.trans (F1.len _ _ _ _ hsp)
  have hus : us.length ≤ sizeLine := by
    rw [← Paired.length r1, sizeLine_eq]
    omega
  refine wpAny_call (PySem.HandSPX.call_own F.excBase_ValueError (fun Y => PySem.HandSPX.refsVE_contains Y bm hbm) (I1.kIn _ _ hC) (PySem.W.looks_findIn I1.kIn iC) (fun self => PySem.W.bind_fn I1.kIn self tI) hus ?_)
  rw [ea]
  have hbd := hb ⟨(hp.push (PySem.W.kdv_tup us)).push (PySem.HandSPX.excO C hp.objs.size), g, dr, tk, os⟩ (Value.ref a :: us) I2.kIn (by rw [List.length_append]; simpa using hlen)
  rw [List.append_nil] at hbd
  refine codeAny_mono (F1.run _ X.stack _ _ ⟨Value.ref a :: us, []⟩ (Value.ref a :: us) _ _ (fun _ _ _ => False) (hr.make C us []) (I2.env0.make C us []) hbd r2 hsp) fun r s' hq' => ?_
  cases r with
  | error er => exact passes_none pins σ _ _ er s' I2 hq'
  | ok fl =>
    cases fl with
    | ret u =>
      obtain ⟨v, H2, os2, bare2, un2, hok2, rv, ev, fin⟩ := hq'
      subst ev
      obtain ⟨h2, g2, d2, t2, os'⟩ := s'
      refine ⟨rv, ?_⟩
      have R : Raises X (.ref C) := raises_own TC.exC TC.tyC
      rcases fin with ⟨e0, eH⟩ | ⟨n0, d, hd, na, fa, fdd, fo⟩
      · subst eH
        have ens : ns = [] := by
          have := congrArg List.length e0
          rw [List.length_reverse, List.length_zip, hl, Nat.min_self, List.length_nil] at this
          exact List.length_eq_zero_iff.mp this
        exact mk_endN R I1 hsz kk un2 hok2 os2 bare2 (q0 ens)
      · have ens : ns ≠ [] := fun e => n0 (by rw [e]; rfl)
        have hd1 : H1 d = none := by rw [upd_ne na] at hd; exact hd
        have eH : upd (del H2 a) d (.xd (ns.zip vs).reverse) = upd H1 d (.xd (ns.zip vs).reverse) := by
          funext b
          by_cases hbd : b = d
          · rw [hbd, upd_same, upd_same]
          · rw [upd_ne hbd, upd_ne hbd]
            by_cases hba : b = a
            · rw [hba, del_same, hn]
            · rw [del_ne hba, fo b hba hbd, upd_ne hba]
        exact mk_end R I1 hsz kk un2 hok2 os2 bare2 fa fdd hd1 (by rw [eH]; exact q1 ens d hd1)
    | next => exact False.elim hq'
    | brk => exact False.elim hq'
    | cont => exact False.elim hq'
end
section
variable {X : Cx} {e : Expr} {es : List Expr} {ta : TA} {x : Str} {p pos : Pos} {k : Nat} {ns : List Str}
theorem pmk_err (M : ErrMk X.prog X.w X.K X.mg X.base k x ns) (hr : Room (k + 1) X.A) (hg : Gl X x) (ha : PA X (e :: es) ta) (hdb : (x == ("__debug__" : Str)) = false := by decide)
    (h1 : starEach (e :: es) X.env = (false, eval e X.env) :: starEach es X.env := by rfl) (h2 : (backTo pos (starEach es X.env)).any (·.1) = false := by rfl) : ∃ C, X.mg x = some (.ref C) ∧ PMk X (.Call (.Name x p) (e :: es) [] pos) (tErr C ns ta) := by
  obtain ⟨C, fI, fd, N, ps, t, hm, T, iC, tI, F1, hb, hF⟩ := M.ex
  refine ⟨C, hm, fun pins s σ H Q I h => ?_⟩
  refine wpAny_Call_Name_kw (ld_glob I hg hm ?_ hdb)
  refine PySem.W.callWith_K (h₀ := X.base) I.ok.mod.kin T.kC (thn (ha.run pos pins _ σ H _ I h) fun us s1 ⟨vs, H1, I1, r1, hl, hz, q0, q1⟩ => ⟨I1.kIn, ?_⟩) h1 h2
  exact run_err T iC tI F1 hb hF hr I1 r1 hl hz q0 q1
end
end Nv
-- N31
namespace Nv
open PySem PySem.Spec PyProof.Rows L2 NdefX
open Evl (Ex)
def datsO : List OV → Option (List D)
  | [] => some []
  | .dat d :: r => (datsO r).map (d :: ·)
  | .slot _ :: _ => none
def raiseO (n : Str) (ns : List Str) (os : List OV) (Γ : Ev) : Out := match datsO os with
  | some ds => if ds.length = ns.length then .ex n (ns.zip ds).reverse Γ else .bad
  | none => .bad
def raiseS (n : Str) (ns : List Str) (f : Ev → Rs (List OV)) : Ev → Out := fun Γ => (f Γ).out fun os Γ => raiseO n ns os Γ
theorem datsO_reps {M : Md} {σ : L2.St} {F : Hp} : ∀ {os : List OV} {vs : List V} {ds : List D}, datsO os = some ds → ovsR M σ F vs os → Reps M F ds vs
  | [], [], _, h, _ => by cases h; exact Reps.nil
  | [], _ :: _, _, _, h => h.elim
  | .dat d :: r, [], _, _, h => h.elim
  | .dat d :: r, v :: vs, ds, h, hv => by
    unfold datsO at h
    cases hr : datsO r with
    | none => rw [hr] at h; cases h
    | some l =>
      rw [hr] at h
      cases h
      exact Reps.cons hv.1 (datsO_reps hr hv.2)
  | .slot _ :: _, _, _, h, _ => by cases h
theorem RepF.append {M : Md} {H : Hp} : ∀ {l m : List (Str × D)} {xs ys : List (Str × V)}, RepF M H l xs → RepF M H m ys → RepF M H (l ++ m) (xs ++ ys)
  | [], _, _, _, h, t => by
    unfold RepF at h
    subst h
    exact t
  | (f, d) :: l, _, _, _, h, t => by
    unfold RepF at h
    obtain ⟨v, r, rfl, h2, h3⟩ := h
    rw [List.cons_append, List.cons_append]
    unfold RepF
    exact ⟨v, _, rfl, h2, RepF.append h3 t⟩
theorem RepF.zipR {M : Md} {H : Hp} : ∀ {ns : List Str} {ds : List D} {vs : List V}, Reps M H ds vs → RepF M H (ns.zip ds).reverse (ns.zip vs).reverse
  | [], _, _, _ => by simp [RepF]
  | n :: ns, [], _, h => by
    cases reps_nil.mp h
    simp [RepF]
  | n :: ns, d :: ds, _, h => by
    obtain ⟨v, r, rfl, h1, h2⟩ := reps_cons.mp h
    rw [List.zip_cons_cons, List.zip_cons_cons, List.reverse_cons, List.reverse_cons]
    refine RepF.append (RepF.zipR h2) ?_
    unfold RepF
    exact ⟨v, [], rfl, h1, by unfold RepF; rfl⟩
section
variable {X : Cx} {c : Cf} {e : Expr} {es : List Expr} {p pos pos' : Pos} {k k' : Nat} {x : Str} {ns : List Str} {f : Ev → Rs (List OV)}
theorem rd_raise {C : Addr} {De : Ends} {σ : L2.St} {H : Hp} (hm : c.M.mg x = some (.ref C)) (hns : ns.length ≤ 900) (h : tS c (raiseS x ns f) De σ H) : tErr C ns (tR c (vrA c.M) f) σ H fun cls d H' => c.W cls d σ H' := by
  obtain ⟨F, Γ, r, q⟩ := h
  refine ⟨F, Γ, r, (PoS.out (R := vrA c.M) q).imp fun vs H1 ⟨F1, Γ1, os, r1, e1, a1, q1⟩ => ?_⟩
  unfold raiseO at q1
  split at q1
  · rename_i ds hd
    split at q1
    · rename_i hl
      have rp := datsO_reps hd a1
      have lv : vs.length = ns.length := by rw [rp.length, hl]
      refine ⟨lv, hns, fun e0 => ?_, fun n0 d hn => ?_⟩
      · subst e0
        exact q1 σ F1 H1 C none r1 e1 hm (.inl ⟨by simp, rfl⟩)
      · exact q1 σ (upd F1 d (.xd (ns.zip vs).reverse)) (upd H1 d (.xd (ns.zip vs).reverse)) C (some d) (r1.newF hn) (e1.trans (Ext.newF hn (r1.fr hn))) hm
          (.inr ⟨d, _, rfl, upd_same, RepF.zipR (rp.mono (Evl.Ex.new (r1.fr hn)))⟩)
    · exact q1.elim
  · exact q1.elim
theorem ds_raise (D : ErrMk X.prog X.w X.K X.mg X.base k x ns) (hk : k + 1 ≤ k') (hr : Room k' X.A) (tk : Takes X c.W) (hc : X.calm = true) (hM : c.M = ⟨X.K, X.mg⟩) (ha : DA X c (e :: es) f) (hg : Gl X x := by rfl) (hns : ns.length ≤ 900 := by decide)
    (hdb : (x == ("__debug__" : Str)) = false := by decide) (h1 : starEach (e :: es) X.env = (false, eval e X.env) :: starEach es X.env := by rfl) (h2 : (backTo pos (starEach es X.env)).any (·.1) = false := by rfl) :
    DS X c (.Raise (some (.Call (.Name x p) (e :: es) [] pos)) none pos') (raiseS x ns f) := by
  obtain ⟨C, hm, pk⟩ := pmk_err (p := p) D (hr.mono hk) hg ha hdb h1 h2
  exact PS.of (ps_raise hc tk pk) fun De σ H q => rd_raise (by rw [hM]; exact hm) hns q
end
end Nv
-- N32
namespace Nv
open PySem PySem.Spec PyProof.Rows L2 NdefX
open Evl (Ex)
theorem exE_ok {P : Program} {w : World} {H : Hp} {h : Heap} {a C : Addr} {d : Option Addr} {oe : Obj} {vs : Array Value} (e : h.get? a = some oe) (z : Zc (.ref C) d oe) (v : oe.data = .fields vs) : ObjOk P w H h a (exE a C d) :=
  ⟨⟨oe, vs, e, z, v⟩, ⟨oe, e⟩, fun _ _ ⟨o, u, q, r⟩ k => ⟨o, u, k o q, r⟩⟩
section
variable {X : Cx} {pins : List (Addr × Obj)} {σ : L2.St} {H : Hp} {s' sI : Shared} {B : Heap} {a C : Addr} {d : Option Addr} {oe : Obj} {vs : Array Value}
/-- on the ground again, the error taken up -/
theorem inv_landE (I : Inv X pins σ H sI) (nb : ∀ b o, sI.heap.get? b = some o → b ∉ frs X.stack → B.get? b = some o) (nB : B.get? a = none) (nfr : a ∉ frs X.stack) (st : B.StaysIn s'.heap) (up : sI.heap.UpToSlots s'.heap) (os : s'.os = sI.os) (ag : AllBare s'.gens)
    (na : H a = none) (e : s'.heap.get? a = some oe) (z : Zc (.ref C) d oe) (v : oe.data = .fields vs) : Inv X pins σ (upd H a (exE a C d)) s' := by
  have n0 : sI.heap.get? a = none := by
    cases q : sI.heap.get? a with
    | none => rfl
    | some o =>
      have q2 := nb a o q nfr
      rw [nB] at q2; cases q2
  have ne0 : ∀ {b : Addr} {o : Obj}, sI.heap.get? b = some o → b ≠ a := fun {b o} q y => by rw [y, n0] at q; cases q
  have sl : ∀ b ∈ frs X.stack, ∀ o, sI.heap.get? b = some o → ∃ s2, s'.heap.get? b = some { o with slots := s2 } := fun b hb o q => by
    obtain ⟨_, o2, q2, nd⟩ := I.stack.mem hb
    rw [q] at q2; cases q2
    exact up b o q nd
  have U : Un (frs X.stack) [] H (upd H a (exE a C d)) sI.heap s'.heap := {
    keep := fun b o q _ hb _ => st b o (nb b o q hb)
    slot := fun b o q _ hb _ => sl b hb o q
    free := fun b o q n _ => by rw [upd_ne (ne0 q)]; exact n
    there := fun b o q _ => by
      by_cases hb : b ∈ frs X.stack
      · obtain ⟨s2, q2⟩ := sl b hb o q
        exact ⟨_, q2⟩
      · exact ⟨o, st b o (nb b o q hb)⟩
    tups := fun b xs q => by rw [upd_ne (ne_of_none q na)]; exact q
    frzs := fun b o u q => by rw [upd_ne (ne_of_none q na)]; exact q
    tbls := fun b ps q => ⟨#[], by rw [upd_ne (ne_of_none q na), q]; simp⟩ }
  exact I.call' (ch := []) os U ((I.inGround nb).laidN st na (exE_ok e z v)) ag (fun _ y => nomatch y)
theorem inv_suite (I : Inv X pins σ H s') (b : Addr) : Inv (X.suite b (X.pn ++ pins)) [] σ H s' :=
  ⟨I.ok.suite _ _, I.os, I.bare, I.base, I.loc, I.cell, I.free, I.freeC, fun p hp => I.pin p (by rw [List.append_nil] at hp; exact hp), I.hok, I.len⟩
theorem inv_unsuite {b : Addr} (I : Inv (X.suite b (X.pn ++ pins)) [] σ H s') (ok : X.Ok) : Inv X pins σ H s' :=
  ⟨ok, I.os, I.bare, I.base, I.loc, I.cell, I.free, I.freeC, fun p hp => I.pin p (by rw [List.append_nil]; exact hp), I.hok, I.len⟩
end
/-- one clause: its class, the slot of its name, its suite -/
structure Cla where
  c : Value
  i : Option Nat
  ts : TS
def offS (i : Option Nat) (σ : L2.St) : L2.St := match i with
  | some j => σ.set j none
  | none => σ
def onS (i : Option Nat) (a : Addr) (σ : L2.St) : L2.St := match i with
  | some j => σ.set j (some (.ref a))
  | none => σ
def wTry (K : PySem.W.Frag) (Wout : WX) (De : Ends) : List Cla → WX
  | [] => Wout
  | k :: r => fun cls d σ H => ∃ b, PySem.W.exmOne K cls k.c = some b ∧
    (b = true → ∃ C, cls = .ref C ∧ ∀ a, H a = none → k.ts { nx := fun σ H => De.nx (offS k.i σ) H, rt := De.rt, bk := fun σ H => De.bk (offS k.i σ) H, ct := fun σ H => De.ct (offS k.i σ) H } (onS k.i a σ) (upd H a (exE a C d))) ∧
    (b = false → wTry K Wout De r cls d σ H)
inductive HdTry (X : Cx) : List ExceptHandler → List Cla → Prop
  | nil : HdTry X [] []
  | cons0 {x : Str} {c : Value} {ts : TS} {b0 : Stmt} {su : List Stmt} {np p : Pos} {hs : List ExceptHandler} {l : List Cla} (hc : Names X x c) (hsu : ∀ a pn, PSs (X.suite a pn) (b0 :: su) ts) (r : HdTry X hs l) :
      HdTry X (.ExceptHandler (some (.Name x np)) none (b0 :: su) p :: hs) (⟨c, none, ts⟩ :: l)
  | consN {x n : Str} {i : Nat} {c : Value} {ts : TS} {b0 : Stmt} {su : List Stmt} {np p : Pos} {hs : List ExceptHandler} {l : List Cla} (hc : Names X x c) (hi : X.N[i]? = some n) (hl : X.env.kindOf n = some .local) (hsu : ∀ a pn, PSs (X.suite a pn) (b0 :: su) ts)
      (r : HdTry X hs l) : HdTry X (.ExceptHandler (some (.Name x np)) (some n) (b0 :: su) p :: hs) (⟨c, some i, ts⟩ :: l)
section
variable {X : Cx} {body : List Stmt} {h0 : ExceptHandler} {hds : List ExceptHandler} {l : List Cla} {pos : Pos} {tb : WX → TS} {Wout : WX}
theorem ps_tryE (hs : X.stack = X.env :: X.outer) (hf : X.env.frame = some X.env.locals) (hN : X.N.Nodup) (tk : Takes X Wout)
    (hb : ∀ (W : WX) (pn : List (Addr × Obj)) (xe : Value → Shared → Prop), Takes (X.tr pn xe) W → PassesOwn (model X.prog X.w) X.A X.env xe → PSs (X.tr pn xe) body (tb W)) (hh : HdTry X (h0 :: hds) l) :
    PS X (.Try body (h0 :: hds) [] [] pos) (fun De σ H => tb (wTry X.K Wout De l) De σ H) := by
  refine ⟨fun pins s σ H De I h => ?_⟩
  have ok := I.ok
  have hfr : X.A.frames = some (X.env :: X.outer) := by rw [ok.frames, hs]
  refine wpAny_Try_except ?_
  have run := (hb (wTry X.K Wout De l) (X.pn ++ pins) (fun e s1 => wpAny (model X.prog X.w) X.A (noteFrame e X.env) (fun _ s2 => wpAny (model X.prog X.w) X.A (setFlight e none) (fun _ s3 =>
    wpAny (model X.prog X.w) X.A (handleBy e X.env (h0 :: hds)) (SP X pins De) X.xe s3) X.xe s2) X.xe s1) (fun u s' xx => ?_) PassesOwn.looking).run [] s σ H De (I.toTry _) h
  · refine wpAny_mono run (fun f s1 hsp => ?_) (fun e s1 he => he)
    cases f with
    | next =>
      obtain ⟨σ', H', J', q⟩ := hsp
      exact wpAny_execs_nil ⟨σ', H', J'.ofTry ok, q⟩
    | brk =>
      obtain ⟨σ', H', J', q⟩ := hsp
      exact ⟨σ', H', J'.ofTry ok, q⟩
    | cont =>
      obtain ⟨σ', H', J', q⟩ := hsp
      exact ⟨σ', H', J'.ofTry ok, q⟩
    | ret u =>
      obtain ⟨v, σ', H', J', r, q⟩ := hsp
      exact ⟨v, σ', H', J'.ofTry ok, r, q⟩
  · obtain ⟨a, B, sI, pins', σ', H', cls, d, rfl, J', nb, up, sky, na, os, ag, w⟩ := xx
    have J : Inv X pins σ' H' sI := J'.ofTry ok
    have sky2 : Sky B (X.env :: X.outer) a (Zc cls d) X.env.locals s'.heap := by rw [← hs]; exact sky
    show wpAny (model X.prog X.w) X.A (noteFrame (.ref a) X.env) _ _ _
    refine Sky.land Zc.steady hfr hf sky2 fun h3 fl3 up3 => ?_
    have J3 : Inv X pins σ' H' { s' with heap := h3 } := J.landed nb fl3.1 (up.trans up3) os ag
    have nfr : a ∉ frs (X.env :: X.outer) := fun hm => by
      obtain ⟨oe, vs, he, _, hd⟩ := fl3.there
      obtain ⟨_, o2, e2, nd⟩ := fl3.2.2.1.mem hm
      rw [he] at e2; cases e2
      exact nd _ hd
    have nst : a ∉ frs X.stack := by rw [hs]; exact nfr
    have go : ∀ {hd2 : List ExceptHandler} {l2 : List Cla}, HdTry X hd2 l2 → wTry X.K Wout De l2 cls d σ' H' → wpAny (model X.prog X.w) X.A (handleBy (.ref a) X.env hd2) (SP X pins De) X.xe { s' with heap := h3 } := by
      intro hd2 l2 hk
      obtain ⟨oe3, vs3, he3, hz3, hd3⟩ := fl3.there
      have LT : PySem.W.Looks (model X.prog X.w) h3 (typeOf (.ref a)) cls := fun A Q E s k q => wpAny_typeOf_ref (k _ _ he3) (by rw [hz3.1]; exact q)
      have S3 : Inv (X.suite a (X.pn ++ pins)) [] σ' H' { s' with heap := h3 } := inv_suite J3 a
      have test : ∀ {x : Str} {c : Value} {np : Pos} {Q : Value → Shared → Prop} {E : Value → Shared → Prop}, Names X x c → Q c { s' with heap := h3 } → wpAny (model X.prog X.w) (X.A.mark (some (.ref a))) (eval (.Name x np) X.env) Q E { s' with heap := h3 } := fun {x c np Q E} hc q => by
        obtain ⟨hg, hdbg, hm | ⟨hm, hv, hnn⟩⟩ := hc
        · exact ld_glob (X := X.suite a (X.pn ++ pins)) S3 hg hm q hdbg
        · exact ld_blt (X := X.suite a (X.pn ++ pins)) S3 hg hm hv q hnn hdbg
      induction hk with
      | nil =>
        intro w
        refine wpAny_handleBy_nil ?_
        obtain ⟨k1, k2, k3, oe, vs, T, oT, ts2, he, hz, hd, h1, hr⟩ := id fl3
        unfold PySem.passOn
        refine wpAny_bind (wpAny_field he hd h1 ?_)
        rw [if_neg (show ¬ ((Value.ref T == Value.none) = true) from by simp)]
        have fin : wpAny (model X.prog X.w) X.A (setFlight (.ref a) X.env.frame) (fun _ s4 => wpAny (model X.prog X.w) X.A (throw (.ref a) : Sem Flow) (SP X pins De) X.xe s4) X.xe { s' with heap := h3 } := by
          rw [hf]
          refine HandSPX.setFlight_upZ fl3 fun h4 hh4 up4 => wpAny_throw (tk _ _ ?_)
          exact ⟨a, B, sI, pins, σ', H', cls, d, rfl, J, nb, (up.trans up3).trans up4, .inr (.inr (by rw [hs]; exact hh4)), na, os, ag, w⟩
        first
          | exact wpAny_bind (wpAny_pure (wpAny_bind fin))
          | exact wpAny_bind fin
      | cons0 hc hsu r ih =>
        intro w
        obtain ⟨b, hb1, hyes, hno⟩ := w
        refine wpAny_handleBy_cons (codeAny_handlers_test ?_) (by intro q; cases q)
        refine test hc ((PySem.W.exm_one (M := model X.prog X.w) (J3.kIn) LT hb1).here ?_)
        cases b with
        | false => exact ih (hno rfl)
        | true =>
          obtain ⟨C, hC, hts⟩ := hyes rfl
          subst hC
          refine codeAny_handlers_suite ?_
          refine HandSPX.lands_againZ fl3 fun h4 fl4 up4 => ?_
          obtain ⟨oe4, vs4, he4, hz4, hd4⟩ := fl4.there
          have J4 := inv_landE (s' := { s' with heap := h4 }) J nb fl4.2.1 nst fl4.1 ((up.trans up3).trans up4) os ag na he4 hz4 hd4
          refine wpAny_mono ((hsu a (X.pn ++ pins)).run [] _ _ _ _ (inv_suite J4 a) (hts a na)) (fun f s6 hsp => ?_) (fun _ _ z => False.elim z)
          cases f with
          | next =>
            obtain ⟨σ6, H6, S6, q6⟩ := hsp
            exact ⟨_, _, inv_unsuite S6 ok, q6⟩
          | brk =>
            obtain ⟨σ6, H6, S6, q6⟩ := hsp
            exact ⟨_, _, inv_unsuite S6 ok, q6⟩
          | cont =>
            obtain ⟨σ6, H6, S6, q6⟩ := hsp
            exact ⟨_, _, inv_unsuite S6 ok, q6⟩
          | ret u =>
            obtain ⟨v6, σ6, H6, S6, r6, q6⟩ := hsp
            exact ⟨_, _, _, inv_unsuite S6 ok, r6, q6⟩
      | @consN x n i c ts b0 su np p hs2 l2 hc hi hln hsu r ih =>
        intro w
        obtain ⟨b, hb1, hyes, hno⟩ := w
        refine wpAny_handleBy_cons (codeAny_handlers_test ?_) (by intro q; cases q)
        refine test hc ((PySem.W.exm_one (M := model X.prog X.w) (J3.kIn) LT hb1).here ?_)
        cases b with
        | false => exact ih (hno rfl)
        | true =>
          obtain ⟨C, hC, hts⟩ := hyes rfl
          subst hC
          refine codeAny_handlers_suite_as ?_
          refine HandSPX.lands_againZ fl3 fun h4 fl4 up4 => ?_
          obtain ⟨oe4, vs4, he4, hz4, hd4⟩ := fl4.there
          have J4 := inv_landE (s' := { s' with heap := h4 }) J nb fl4.2.1 nst fl4.1 ((up.trans up3).trans up4) os ag na he4 hz4 hd4
          refine store_ok (X := X.suite a (X.pn ++ pins)) (v := .ref a) (inv_suite J4 a) hN hi (.inl hln) rfl (fun s5 S5 => ?_) (.inr hln)
          refine wpAny_mono ((hsu a (X.pn ++ pins)).run [] s5 _ _ _ S5 (hts a na)) (fun f s6 hsp => ?_) (fun _ _ z => False.elim z)
          have fin : ∀ {σ6 : L2.St} {H6 : Hp} {Q : Shared → Prop}, Inv (X.suite a (X.pn ++ pins)) [] σ6 H6 s6 → (∀ s7, Inv X pins (σ6.set i none) H6 s7 → Q s7) →
              wpAny (model X.prog X.w) X.A (do bindName X.env n .none; unbindBehindTheSuite X.env n p) (fun _ s7 => Q s7) X.xe s6 := fun {σ6 H6 Q} S6 hq => gone_ok (inv_unsuite S6 ok) hN hi hln hq
          cases f with
          | next =>
            obtain ⟨σ6, H6, S6, q6⟩ := hsp
            exact fin S6 fun s7 J7 => ⟨_, _, J7, q6⟩
          | brk =>
            obtain ⟨σ6, H6, S6, q6⟩ := hsp
            exact fin S6 fun s7 J7 => ⟨_, _, J7, q6⟩
          | cont =>
            obtain ⟨σ6, H6, S6, q6⟩ := hsp
            exact fin S6 fun s7 J7 => ⟨_, _, J7, q6⟩
          | ret u =>
            obtain ⟨v6, σ6, H6, S6, r6, q6⟩ := hsp
            exact fin S6 fun s7 J7 => ⟨_, _, _, J7, r6, q6⟩
    exact go hh w
end
end Nv
-- N33
namespace Nv
open PySem PySem.Spec PyProof.Rows L2 NdefX
open Evl (Ex)
/-- an error n is an m -/
def errSub (n m : Str) : Bool := n == m || m == ("MissError" : Str)
abbrev TryCl := Str × Option Nat × (Ev → Out)
/-- a name is set, or none is there -/
def putN (i : Option Nat) (d : D) (Γ : Ev) : Option Ev := match i with
  | none => some Γ
  | some j => setG Γ j (.dat d)
def offN (i : Option Nat) (Γ : Ev) : Option Ev := match i with
  | none => some Γ
  | some j => if setOk Γ j = true then some (Γ.set j .un) else none
/-- behind an except suite -/
def offX (k : Ev → Out) (i : Option Nat) (Γ : Ev) : Out := match offN i Γ with
  | some Γ => k Γ
  | none => .bad
def endT (i : Option Nat) : Out → Out
  | .nx Γ => offX .nx i Γ
  | .bk Γ => offX .bk i Γ
  | .ct Γ => offX .ct i Γ
  | .rt av Γ => .rt av Γ
  | .ex _ _ _ => .bad
  | .bad => .bad
def goT (n : Str) (l : List (Str × D)) (Γ : Ev) : List TryCl → Out
  | [] => .ex n l Γ
  | k :: r => if errSub n k.1 = true then (match putN k.2.1 (.exn n l) Γ with
    | some Γ1 => endT k.2.1 (k.2.2 Γ1)
    | none => .bad) else goT n l Γ r
def tryO (L : List Str) (cs : List TryCl) : Out → Out
  | .ex n l Γ => if n ∈ L then goT n l Γ cs else .bad
  | o => o
def tryS (L : List Str) (body : Ev → Out) (cs : List TryCl) : Ev → Out := fun Γ => tryO L cs (body Γ)
/-- what the module says of two of its errors -/
structure ErrP (M : Md) (n m : Str) : Prop where
  ex : ∃ C D, M.mg n = some (.ref C) ∧ M.mg m = some (.ref D) ∧ PySem.W.exmOne M.K (.ref C) (.ref D) = some (errSub n m)
/-- the clauses are read as told -/
inductive ClsOk (c : Cf) : List Cla → List TryCl → Prop
  | nil : ClsOk c [] []
  | cons {D : Addr} {m : Str} {i : Option Nat} {h : Ev → Out} {as : List Cla} {cs : List TryCl} (hm : c.M.mg m = some (.ref D)) (r : ClsOk c as cs) : ClsOk c (⟨.ref D, i, tS c.calm h⟩ :: as) ((m, i, h) :: cs)
section
variable {c : Cf} {σ : L2.St} {F H : Hp} {Γ : Ev} {De : Ends} {L : List Str}
theorem off_rel {M : Md} {σ0 : L2.St} {i : Option Nat} {Γ' : Ev} (r : Rel M σ0 F H σ Γ) (h : offN i Γ = some Γ') : Rel M σ0 F H (offS i σ) Γ' ∧ ∀ b, own (offS i σ) Γ' b → own σ Γ b := by
  cases i with
  | none =>
    cases h
    exact ⟨r, fun _ z => z⟩
  | some j =>
    unfold offN at h
    dsimp only at h
    split at h
    · cases h
      refine ⟨rel_wipe (vs := [j]) (hs := [j]) r (fun _ z => z), fun b ⟨k, t, o, g1, g2⟩ => ?_⟩
      by_cases z : j = k
      · subst z
        have hj : j < Γ.length := by
          have := (List.getElem?_eq_some_iff.mp g1).1
          rwa [List.length_set] at this
        rw [List.getElem?_set_self hj] at g1; cases g1
      · rw [List.getElem?_set_ne z] at g1
        refine ⟨k, t, o, g1, ?_⟩
        have g2' : (σ.set j none)[k]? = some (some (.ref b)) := g2
        rw [List.getElem?_set_ne z] at g2'
        exact g2'
    · cases h
theorem putn_rel {M : Md} {σ0 : L2.St} {i : Option Nat} {Γ' : Ev} {d : D} {a : Addr} (r : Rel M σ0 F H σ Γ) (h : putN i d Γ = some Γ') (hd : Rep M F d (.ref a)) : Rel M σ0 F H (onS i a σ) Γ' ∧ ∀ b, own (onS i a σ) Γ' b → own σ Γ b := by
  cases i with
  | none =>
    cases h
    exact ⟨r, fun _ z => z⟩
  | some j =>
    obtain ⟨r2, o2⟩ := set_rel (A0 := own σ Γ) (H0 := H) (v := .ref a) r h hd
    unfold putN setG at h
    dsimp only at h
    split at h
    · cases h
      refine ⟨r2, fun b ⟨k, t, o, g1, g2⟩ => ?_⟩
      by_cases z : j = k
      · subst z
        have hj : j < Γ.length := by
          have := (List.getElem?_eq_some_iff.mp g1).1
          rwa [List.length_set] at this
        rw [List.getElem?_set_self hj] at g1; cases g1
      · rw [List.getElem?_set_ne z] at g1
        refine ⟨k, t, o, g1, ?_⟩
        have g2' : (σ.set j (some (.ref a)))[k]? = some (some (.ref b)) := g2
        rw [List.getElem?_set_ne z] at g2'
        exact g2'
    · cases h
theorem PoS.endT {i : Option Nat} {o : Out} (h : PoS c σ F H Γ (Nv.endT i o) De) : PoS c.calm σ F H Γ o { nx := fun σ H => De.nx (offS i σ) H, rt := De.rt, bk := fun σ H => De.bk (offS i σ) H, ct := fun σ H => De.ct (offS i σ) H } := by
  cases o with
  | nx Γ1 =>
    intro σ' F' H' r e
    have h2 : PoS c σ F H Γ (offX .nx i Γ1) De := h
    unfold offX at h2
    split at h2
    · rename_i Γ2 ho
      obtain ⟨r2, o2⟩ := off_rel r ho
      exact h2 _ F' H' r2 (e.own fun b z => .inl (o2 b z))
    · exact h2.elim
  | bk Γ1 =>
    intro σ' F' H' r e
    have h2 : PoS c σ F H Γ (offX .bk i Γ1) De := h
    unfold offX at h2
    split at h2
    · rename_i Γ2 ho
      obtain ⟨r2, o2⟩ := off_rel r ho
      exact h2 _ F' H' r2 (e.own fun b z => .inl (o2 b z))
    · exact h2.elim
  | ct Γ1 =>
    intro σ' F' H' r e
    have h2 : PoS c σ F H Γ (offX .ct i Γ1) De := h
    unfold offX at h2
    split at h2
    · rename_i Γ2 ho
      obtain ⟨r2, o2⟩ := off_rel r ho
      exact h2 _ F' H' r2 (e.own fun b z => .inl (o2 b z))
    · exact h2.elim
  | rt av Γ1 => exact h
  | ex n l Γ1 => exact h.elim
  | bad => exact h.elim
theorem go_wish {n : Str} {l : List (Str × D)} {C : Addr} {dx : Option Addr} {as : List Cla} {cs : List TryCl} (hk : ClsOk c as cs) (hp : ∀ k ∈ cs, ErrP c.M n k.1) (r : Rel c.M c.σ0 F H σ Γ) (hm : c.M.mg n = some (.ref C)) (x : XR c.M F l dx)
    (q : PoS c σ F H Γ (goT n l Γ cs) De) : wTry c.M.K c.W De as (.ref C) dx σ H := by
  induction hk with
  | nil => exact q σ F H C dx r Ext.refl hm x
  | @cons D m i h as cs hm2 rr ih =>
    obtain ⟨C', D', h1, h2, h3⟩ := (hp _ List.mem_cons_self).ex
    rw [hm] at h1; cases h1
    dsimp only at h2 h3
    rw [hm2] at h2; cases h2
    refine ⟨errSub n m, h3, fun hb => ⟨C, rfl, fun a na => ?_⟩, fun hb => ?_⟩
    · unfold goT at q
      dsimp only at q
      rw [if_pos hb] at q
      split at q
      · rename_i Γ1 hput
        have fa := r.fr na
        have hd : Rep c.M (upd F a (exE a C dx)) (.exn n l) (.ref a) := by
          refine rep_exn.mpr ?_
          rcases x with ⟨rfl, rfl⟩ | ⟨b, fs, rfl, hb2, hr⟩
          · exact ⟨a, C, none, [], rfl, hm, upd_same, .inl ⟨rfl, rfl⟩, by unfold RepF; rfl⟩
          · refine ⟨a, C, some b, fs, rfl, hm, upd_same, .inr ⟨b, rfl, ?_⟩, hr.mono (Evl.Ex.new fa)⟩
            rw [upd_ne (fun z => by rw [z, fa] at hb2; cases hb2)]
            exact hb2
        obtain ⟨r2, o2⟩ := putn_rel (r.newF (o := exE a C dx) na) hput hd
        exact ⟨_, Γ1, r2, PoS.shift ((Ext.newF na fa).own fun b z => .inl (o2 b z)) (PoS.endT q)⟩
      · exact q.elim
    · unfold goT at q
      dsimp only at q
      rw [hb, if_neg (by simp)] at q
      exact ih (fun k hk => hp k (List.mem_cons_of_mem _ hk)) q
theorem rd_try {as : List Cla} {body : Ev → Out} {cs : List TryCl} (hk : ClsOk c as cs) (hp : ∀ n ∈ L, ∀ k ∈ cs, ErrP c.M n k.1) (h : tS c (tryS L body cs) De σ H) : tS { c with W := wTry c.M.K c.W De as } body De σ H := by
  obtain ⟨F, Γ, r, q⟩ := h
  refine ⟨F, Γ, r, ?_⟩
  unfold tryS at q
  cases hb : body Γ with
  | nx Γ' => rw [hb] at q; exact q
  | bk Γ' => rw [hb] at q; exact q
  | ct Γ' => rw [hb] at q; exact q
  | rt av Γ' => rw [hb] at q; exact q
  | ex n l Γ' =>
    rw [hb] at q
    unfold tryO at q
    dsimp only at q
    split at q
    · rename_i hL
      exact fun σ' F' H' C dx r1 e1 m x => go_wish hk (hp n hL) r1 m x (PoS.shift e1 q)
    · exact q.elim
  | bad => rw [hb] at q; exact q.elim
end
section
variable {X : Cx} {c : Cf} {body : List Stmt} {h0 : ExceptHandler} {hds : List ExceptHandler} {pos : Pos} {L : List Str} {fb : Ev → Out} {cs : List TryCl}
/-- the clauses' texts -/
inductive DHs (X : Cx) (c : Cf) : List ExceptHandler → List TryCl → Prop
  | nil : DHs X c [] []
  | cons0 {x : Str} {b0 : Stmt} {su : List Stmt} {np p : Pos} {hs : List ExceptHandler} {h : Ev → Out} {cs : List TryCl} (hg : Gl X x) (hsu : ∀ a pn, DSs (X.suite a pn) c.calm (b0 :: su) h) (r : DHs X c hs cs) (hd : (x == ("__debug__" : Str)) = false := by decide) :
      DHs X c (.ExceptHandler (some (.Name x np)) none (b0 :: su) p :: hs) ((x, none, h) :: cs)
  | consN {x n : Str} {i : Nat} {b0 : Stmt} {su : List Stmt} {np p : Pos} {hs : List ExceptHandler} {h : Ev → Out} {cs : List TryCl} (hg : Gl X x) (hi : X.N[i]? = some n) (hl : X.env.kindOf n = some .local) (hsu : ∀ a pn, DSs (X.suite a pn) c.calm (b0 :: su) h)
      (r : DHs X c hs cs) (hd : (x == ("__debug__" : Str)) = false := by decide) : DHs X c (.ExceptHandler (some (.Name x np)) (some n) (b0 :: su) p :: hs) ((x, some i, h) :: cs)
theorem dhs_ok (hM : c.M = ⟨X.K, X.mg⟩) {hs : List ExceptHandler} {cs : List TryCl} (h : DHs X c hs cs) (hm : ∀ k ∈ cs, ∃ D, c.M.mg k.1 = some (.ref D)) : ∃ as, HdTry X hs as ∧ ClsOk c as cs := by
  induction h with
  | nil => exact ⟨[], .nil, .nil⟩
  | cons0 hg hsu r hd ih =>
    obtain ⟨D, e⟩ := hm _ List.mem_cons_self
    obtain ⟨as, h1, h2⟩ := ih fun k hk => hm k (List.mem_cons_of_mem _ hk)
    exact ⟨_, .cons0 ⟨hg, hd, .inl (by rw [hM] at e; exact e)⟩ hsu h1, .cons e h2⟩
  | consN hg hi hl hsu r hd ih =>
    obtain ⟨D, e⟩ := hm _ List.mem_cons_self
    obtain ⟨as, h1, h2⟩ := ih fun k hk => hm k (List.mem_cons_of_mem _ hk)
    exact ⟨_, .consN ⟨hg, hd, .inl (by rw [hM] at e; exact e)⟩ hi hl hsu h1, .cons e h2⟩
theorem ds_try (hs : X.stack = X.env :: X.outer) (hf : X.env.frame = some X.env.locals) (hN : X.N.Nodup) (tk : Takes X c.W) (hM : c.M = ⟨X.K, X.mg⟩) (hp : ∀ n ∈ L, ∀ k ∈ cs, ErrP c.M n k.1) (hm : ∀ k ∈ cs, ∃ D, c.M.mg k.1 = some (.ref D))
    (hb : ∀ (W : WX) (pn : List (Addr × Obj)) (xe : Value → Shared → Prop), Takes (X.tr pn xe) W → PassesOwn (model X.prog X.w) X.A X.env xe → DSs (X.tr pn xe) { c with W := W } body fb) (hh : DHs X c (h0 :: hds) cs) :
    DS X c (.Try body (h0 :: hds) [] [] pos) (tryS L fb cs) := by
  obtain ⟨as, h1, h2⟩ := dhs_ok hM hh hm
  refine PS.of (ps_tryE hs hf hN tk (tb := fun W => tS { c with W := W } fb) hb h1) fun De σ H q => ?_
  have e : X.K = c.M.K := by rw [hM]
  rw [e]
  exact rd_try h2 hp q
end
end Nv
-- N34
namespace Nv
open PySem PySem.Spec PyProof.Rows L2 NdefX
open Evl (Ex)
section
variable {prog : Program} {w : World} {A : Around} {E : Value → Shared → Prop} {s : Shared} {K : PySem.W.Frag} {x D : Addr} {ox : Obj} {od : Option Obj}
theorem find_dat {name : Str} {a g : Value} (hc : (PySem.W.clsIn K D).isSome = true) (ha : PySem.W.findIn K (.ref D) name = some (some a)) (hg : PySem.W.specialIn K a "__get__" = some (some g)) (ht : PySem.W.takesIn K a = some true) : PySem.W.findObj K D od name = some (.bind g a) := by
  obtain ⟨cd, hc⟩ := Option.isSome_iff_exists.mp hc
  unfold PySem.W.findObj
  rw [hc, Option.bind_some, ha, Option.bind_some]
  simp [hg, ht]
/-- the class of an error, asked of it -/
theorem cls_exc {Q : Option Value → Shared → Prop} (X : ExcC K D) (hK : K.In s.heap) (I : PySem.W.InstAt s.heap x ox D od) (h : Q (some (.ref D)) { s with toks := s.toks + 1 }) : wpAny (model prog w) A (getAttr? (.ref x) "__class__") Q E s := by
  have hf : PySem.W.findObj K D od "__class__" = some (.bind (.builtin "getset_descriptor.__get__") (.builtin "object.__class__")) := find_dat (by obtain ⟨cd, hc, _⟩ := PySem.W.any_some X.hd; rw [hc]; rfl) X.ha X.hn X.ht
  obtain ⟨hp, g, d, t, os⟩ := s
  have T0 := I.type (M := model prog w)
  have T1 := PySem.W.looks_findIn (M := model prog w) hK X.hg
  have T2 := PySem.W.looks_findIn (M := model prog w) hK X.hk
  have T3 := PySem.W.looks_find (M := model prog w) hK I hf
  have sub : PySem.W.Looks (model prog w) hp (isInstance (.ref x) (.type "BaseException")) true := T0.andThen (PySem.W.looks_subIn hK X.hs)
  have nb : (Value.builtin "BaseException.__getattribute__" == Value.builtin "object.__getattribute__") = false := by decide +kernel
  have nb2 : (onTheHeap (Value.ref D) && Value.builtin "BaseException.__getattribute__" == Value.builtin "object.__getattribute__") = false := by rw [nb]; rfl
  unfold getAttr? getAttrBy? getAttrBy
  refine wpAny_bind (wpAny_mkText (wpAny_bind (wpAny_attempt (wpAny_holding (wpAny_bind (T0.at (wpAny_bind (T1.at ?_))))))))
  show wpAny _ _ (if (onTheHeap (Value.ref D) && Value.builtin "BaseException.__getattribute__" == Value.builtin "object.__getattribute__") = true then _ else _) _ _ _
  rw [nb2, if_neg Bool.false_ne_true]
  unfold getAttrByItsOwn hookBefore
  refine wpAny_bind ?_
  rw [if_pos (show onTheHeap (Value.ref D) = true from rfl)]
  refine T2.at (wpAny_bind (wpAny_attempt (wpAny_holding ?_)))
  unfold callGetattribute
  rw [show (false && onTheHeap (Value.builtin "BaseException.__getattribute__")) = false from rfl, if_neg Bool.false_ne_true]
  unfold boundAndCalled
  rw [PySem.F.excAttr_ValueError.ga.bind (.ref x)]
  refine wpAny_bind (wpAny_pure ?_)
  show wpAny _ _ (call (.builtin "BaseException.__getattribute__") [.ref x, .str "__class__" t]) _ _ _
  refine wpAny_call (codeAny_call_builtin PySem.F.excAttr_ValueError.ga.plain PySem.F.entry_bexc_ga ?_)
  refine @PySem.W.check_slot (model prog w) _ _ ⟨hp, g, d, t + 1, os⟩ "BaseException.__getattribute__" "BaseException" "__getattribute__" (.ref x) [.str "__class__" t] [] _ (by decide +kernel) (by decide +kernel) sub (PySem.F.args_bexc_ga (.ref x) (.str "__class__" t)) ?_
  unfold Builtin.«object.__getattribute__»
  refine wpAny_bind (wpAny_of_eq (a := ((Value.ref x : Value), [Value.str "__class__" t])) (by first | rfl | (simp only [slotArgs]; rfl)) ?_)
  refine wpAny_bind (wpAny_pure (wpAny_bind (T0.at (wpAny_bind (T3.at ?_)))))
  show wpAny _ _ (holding [Value.builtin "object.__class__"] (call (.builtin "getset_descriptor.__get__") [.builtin "object.__class__", .ref x, .ref D]) >>= ret) _ _ _
  refine wpAny_bind (wpAny_holding (wpAny_call (PySem.W.class_get (s := ⟨hp, g, d, t + 1, os⟩) (ox := ox) (od := od) hK I X.hm ?_)))
  refine wpAny_pure ?_
  show wpAny _ _ (handedOut (.ref D)) _ _ _
  rw [PySem.W.handedOut_of (v := .ref D) rfl]
  first
    | exact wpAny_pure (wpAny_pure h)
    | exact wpAny_pure h
    | exact wpAny_pure (wpAny_bind (wpAny_pure (wpAny_pure h)))
theorem kit_exc (X : ExcC K D) : PySem.W.KitX K (.ref x) (.ref D) (fun h => ∃ ox od, PySem.W.InstAt h x ox D od) where
  ty := fun _ _ _ ⟨_, _, I⟩ => I.type
  it := fun _ _ hK _ => by
    obtain ⟨cd, hc, _⟩ := PySem.W.any_some X.hd
    unfold PySem.W.clsIn at hc
    split at hc
    · rename_i c' d' cd' sl' ho
      intro A' Q' E' s' k q
      unfold isType loadHead
      exact wpAny_bind (wpAny_loadPart (k _ _ (hK _ _ ho)) (wpAny_pure q))
    · cases hc
  ne := fun h tp dd its n sl hK htp => by
    obtain ⟨cd, hc, _⟩ := PySem.W.any_some X.hd
    refine Bool.eq_false_iff.mpr fun q => ?_
    have e : D = tp := Value.ref.inj (beq_iff_eq.mp q)
    subst e
    unfold PySem.W.clsIn at hc
    split at hc
    · rename_i c' d' cd' sl' ho
      have z := (hK _ _ ho).symm.trans htp
      cases z
    · cases hc
  ca := fun hK ⟨_, _, I⟩ k => cls_exc X hK I k
end
section
variable {X : Cx} {pins : List (Addr × Obj)} {σ : L2.St} {H : Hp} {s : Shared} {a C : Addr} {dx : Option Addr} {fs : List (Str × V)}
/-- the object at a as it lies -/
theorem exn_inst (I : Inv X pins σ H s) (ea : H a = some (exE a C dx)) (hd : (dx = none ∧ fs = []) ∨ ∃ b, dx = some b ∧ H b = some (.xd fs)) :
    ∃ ox od, PySem.W.InstAt s.heap a ox C od ∧ ∀ f v, fs.lookup f = some v → ∃ o, od = some o ∧ ∃ u, PySem.W.lookIn f o = some (some u) ∧ RelV v u := by
  obtain ⟨oe, vs, ha, hz, hv⟩ := (show ObjOk X.prog X.w H s.heap a (exE a C dx) from I.hok a _ ea).1
  rcases hd with ⟨rfl, rfl⟩ | ⟨b, rfl, eb⟩
  · exact ⟨oe, none, ⟨ha, hz.1, by unfold PySem.W.notCls; rw [hv] <;> rfl, by rw [hz.2]; trivial⟩, fun f v h => nomatch h⟩
  · obtain ⟨mA, hns, hr⟩ := (show ObjOk X.prog X.w H s.heap b (.xd fs) from I.hok b _ eb)
    obtain ⟨od, ho, hl⟩ := lookIn_ns hns
    refine ⟨oe, some od, ⟨ha, hz.1, by unfold PySem.W.notCls; rw [hv] <;> rfl, by rw [hz.2]; exact ho⟩, fun f v h => ⟨od, rfl, ?_⟩⟩
    obtain ⟨u, hu, ru⟩ := RelO.some_of (v := v) (o := mA f) (by rw [← h]; exact hr f)
    exact ⟨u, by rw [hl, hu], ru⟩
end
/-- what the module says of an error's class, for its fields and for isinstance -/
structure ErrC (M : Md) (n : Str) (ns : List Str) : Prop where
  ex : ∃ C, M.mg n = some (.ref C) ∧ XfC M.K C ∧ ExcC M.K C ∧ (∀ f ∈ ns, PySem.W.findIn M.K (.ref C) f = some none) ∧ PySem.W.kitOne M.K (.ref C) (.type "ValueError") = some true
/-- a field of an error -/
def tXg (K : PySem.W.Frag) (f : Str) (te : TE) : TE := tUn (fun x H Q => ∃ (a C d : Addr) (fs : List (Str × V)) (v : V), x = .ref a ∧ H a = some (exE a C (some d)) ∧ XfC K C ∧ PySem.W.findIn K (.ref C) f = some none ∧ H d = some (.xd fs) ∧ fs.lookup f = some v ∧ Q v H) te
theorem pe_xg {X : Cx} {e : Expr} {te : TE} {pos : Pos} {n : Str} (he : PE X e te) (hb : attributeBase e n X.env (eval e X.env) = eval e X.env := by rfl) : PE X (.Attribute e n pos) (tXg X.K n te) := by
  refine ⟨fun pins s σ H Q I h => ?_⟩
  refine attr_of hb (thn (he.run pins s σ H _ I h) fun u s1 hh => ?_)
  obtain ⟨x, H1, I1, rx, a, C, d, fs, v, rfl, ea, T, hno, eb, l, q⟩ := hh
  obtain rfl : u = Value.ref a := rx
  obtain ⟨ox, od, J, hl⟩ := exn_inst I1 ea (.inr ⟨d, rfl, eb⟩)
  obtain ⟨o, rfl, u, hu, ru⟩ := hl n v l
  exact HandSPX.exc_get I1.kIn J T.ga T.gg T.exC (PySem.W.findObj_own T.hdC hno rfl hu) (handed_of ru) ⟨v, H1, I1.tok _, ru, q⟩
/-- f of an error n among L -/
def gXf (L : List (Str × List Str)) (f : Str) : D → Option AV
  | .exn n l => (match L.lookup n with
    | some ns => if f ∈ ns then (l.lookup f).map .dat else none
    | none => none)
  | _ => none
def Errs (M : Md) (L : List (Str × List Str)) : Prop := ∀ p ∈ L, ErrC M p.1 p.2
theorem do_xf {X : Cx} {c : Cf} {e : Expr} {pos : Pos} {f : Str} {L : List (Str × List Str)} {g : Ev → Rs OV} (hE : Errs ⟨X.K, X.mg⟩ L) (hM : c.M = ⟨X.K, X.mg⟩) (h : DB X c e g) (hb : attributeBase e f X.env (eval e X.env) = eval e X.env := by rfl) :
    DO X c (.Attribute e f pos) (op1 (gXf L f) g) := by
  refine PE.of (pe_xg h hb) fun σ H Q q => ?_
  refine rd_op1 (r := fun x H Q => ∃ (a C d : Addr) (fs : List (Str × V)) (v : V), x = .ref a ∧ H a = some (exE a C (some d)) ∧ XfC X.K C ∧ PySem.W.findIn X.K (.ref C) f = some none ∧ H d = some (.xd fs) ∧ fs.lookup f = some v ∧ Q v H) ?_ q
  intro F H x d av Q sub r1 e h
  unfold gXf at e
  split at e
  · rename_i n l
    split at e
    · rename_i ns hl
      split at e
      · rename_i hf
        obtain ⟨d, e1, rfl⟩ := Option.map_eq_some_iff.mp e
        obtain ⟨a, C, dx, fs, rfl, h1, h2, h3, h4⟩ := rep_exn.mp (show Rep c.M F (.exn n l) x from r1)
        obtain ⟨C', z1, z2, z3, z4, _⟩ := (hE _ (PySem.mem_of_lookup hl)).ex
        rw [hM] at h1
        have e2 := h1.symm.trans z1
        cases e2
        obtain ⟨v, h5, h6⟩ := h4.look e1
        rcases h3 with ⟨_, rfl⟩ | ⟨b, rfl, hb⟩
        · cases h5
        · exact ⟨a, C, b, fs, v, rfl, sub _ _ h2, z2, z4 f hf, sub _ _ hb, h5, fin_dat sub h h6⟩
      · cases e
    · cases e
  · cases e
def gXi (L : List (Str × List Str)) (ms : List Str) (d t : D) : Option AV := match d with
  | .exn n _ => (match L.lookup n with
    | some _ => (match t with
      | .ty T => if T = "ValueError" then some (.dat (.bl true)) else none
      | .cls m => if m ∈ ms then some (.dat (.bl (errSub n m))) else none
      | _ => none)
    | none => none)
  | _ => none
/-- n is an m, as isinstance has it -/
structure KitP (M : Md) (n m : Str) : Prop where
  ex : ∃ C D, M.mg n = some (.ref C) ∧ M.mg m = some (.ref D) ∧ PySem.W.kitOne M.K (.ref C) (.ref D) = some (errSub n m)
def rXi (K : PySem.W.Frag) : List V → Hp → VK → Prop := fun xs H Q => ∃ (a C : Addr) (dx : Option Addr) (fs : List (Str × V)) (cV : V) (cv : Value) (b : Bool), xs = [.ref a, cV] ∧ H a = some (exE a C dx) ∧ ((dx = none ∧ fs = []) ∨ ∃ b, dx = some b ∧ H b = some (.xd fs)) ∧ ExcC K C ∧
  (∀ u, RelV cV u → u = cv) ∧ PySem.W.kitOne K (.ref C) cv = some b ∧ Q (.bl b) H
theorem call_xi {X : Cx} : CallR X (.builtin "isinstance") (rXi X.K) := by
  intro pins s σ H xs us Q I r h
  obtain ⟨a, C, dx, fs, cV, cv, b, rfl, ea, hd, T, hcv, e, q⟩ := h
  cases r with
  | cons rx rr =>
    cases rr with
    | cons rt rr =>
      cases rr
      cases rx
      have ec := hcv _ rt
      subst ec
      obtain ⟨ox, od, J, _⟩ := exn_inst I ea hd
      exact PySem.W.kia_one (kit_exc T) I.kIn ⟨ox, od, J⟩ e (fun z => nomatch z) fun tk => ⟨.bl b, H, I.kept (t' := tk) fun _ _ z => z, rfl, q⟩
theorem os_xi {M : Md} {L : List (Str × List Str)} {ms : List Str} (hE : Errs M L) (hK : ∀ p ∈ L, ∀ m ∈ ms, KitP M p.1 m) : OpS M (rXi M.K) (gA2 (gXi L ms)) := opS2 fun F H x y d1 d2 av Q sub r1 r2 e h => by
  unfold gXi at e
  split at e
  · rename_i n l
    split at e
    · rename_i ns hl
      have hmem := PySem.mem_of_lookup hl
      obtain ⟨C', z1, z2, z3, z4, z5⟩ := (hE _ hmem).ex
      obtain ⟨a, C, dx, fs, rfl, h1, h2, h3, h4⟩ := rep_exn.mp (show Rep M F (.exn n l) x from r1)
      dsimp only at z1
      rw [h1] at z1; cases z1
      have h3' : (dx = none ∧ fs = []) ∨ ∃ b, dx = some b ∧ H b = some (.xd fs) := h3.imp id fun ⟨b, y1, y2⟩ => ⟨b, y1, sub _ _ y2⟩
      split at e
      · rename_i T
        split at e
        · rename_i hT
          cases e
          subst hT
          have hv : y = .ty "ValueError" := by
            have q : Rep M F (.ty "ValueError") y := r2
            unfold Rep at q
            exact q
          subst hv
          exact ⟨a, _, dx, fs, _, .type "ValueError", true, rfl, sub _ _ h2, h3', z3, fun u ru => ru, z5, fin_dat sub h (rep_bl.mpr rfl)⟩
        · cases e
      · rename_i m
        split at e
        · rename_i hm
          cases e
          have hv : ∃ D, y = .ref D ∧ M.mg m = some (.ref D) := by
            have q : Rep M F (.cls m) y := r2
            unfold Rep at q
            exact q
          obtain ⟨D, rfl, hD⟩ := hv
          obtain ⟨C2, D2, k1, k2, k3⟩ := (hK _ hmem m hm).ex
          dsimp only at k1 k2 k3
          rw [h1] at k1; cases k1
          rw [hD] at k2; cases k2
          exact ⟨a, _, dx, fs, _, .ref D, errSub n m, rfl, sub _ _ h2, h3', z3, fun u ru => ru, k3, fin_dat sub h (rep_bl.mpr rfl)⟩
        · cases e
      · cases e
    · cases e
  · cases e
section
variable {X : Cx} {c : Cf} {e : Expr} {es : List Expr} {pos p : Pos} {f : Ev → Rs (List OV)} {L : List (Str × List Str)} {ms : List Str}
theorem do_xi (hE : Errs ⟨X.K, X.mg⟩ L) (hK : ∀ p ∈ L, ∀ m ∈ ms, KitP ⟨X.K, X.mg⟩ p.1 m) (hM : c.M = ⟨X.K, X.mg⟩) (hm : X.mg "isinstance" = none) (ha : DA X c (e :: es) f) (hg : Gl X "isinstance" := by rfl) (he : starEach (e :: es) X.env = (false, eval e X.env) :: starEach es X.env := by rfl)
    (hpl : (backTo pos (starEach es X.env)).any (·.1) = false := by rfl) : DO X c (.Call (.Name "isinstance" p) (e :: es) [] pos) (opA (gA2 (gXi L ms)) f) :=
  do_callB call_xi (by rw [hM]; exact os_xi hE hK) hm ha (hg := hg) (he := he) (hpl := hpl)
/-- a class's name, as a value -/
theorem de_cls {x : Str} (h : ∃ C, X.mg x = some (.ref C)) (hM : c.M = ⟨X.K, X.mg⟩) (hg : Gl X x := by rfl) (hd : (x == ("__debug__" : Str)) = false := by decide) : DE X c (.Name x pos) (cst (.cls x)) := by
  obtain ⟨C, hC⟩ := h
  refine de_c (v := .ref C) (pe_glob hg hC rfl hd) fun H => ?_
  rw [hM]
  unfold Rep
  exact ⟨C, rfl, hC⟩
end
end Nv
-- N35
namespace Nv
open PySem PySem.Spec PyProof.Rows L2 NdefX
open Evl (Ex)
section
variable {K : PySem.W.Frag} {C D : Addr} {b : Bool} {n m : Str} {mg : Str → Option Value}
theorem kit_ref (hd : PySem.W.hasDictIn K D = true) (ty : PySem.W.typeIn K (.ref D) = some (.type "type")) (self : PySem.W.subIn K (.ref C) (.ref C) = some true) (s : PySem.W.subIn K (.ref C) (.ref D) = some b) : PySem.W.kitOne K (.ref C) (.ref D) = some b := by
  unfold PySem.W.kitOne
  by_cases h : C = D
  · subst h
    rw [if_pos (by simp), ← s, self]
  · rw [if_neg (by simpa using h)]
    obtain ⟨cd, hc, _⟩ := PySem.W.any_some hd
    unfold PySem.W.kitCls
    dsimp only
    rw [hc, ty]
    exact s
theorem kit_ve (s : PySem.W.subIn K (.ref C) (.type "ValueError") = some true) : PySem.W.kitOne K (.ref C) (.type "ValueError") = some true := by
  unfold PySem.W.kitOne PySem.W.kitCls
  rw [if_neg (by simp)]
  dsimp only
  rw [if_pos (by decide +kernel)]
  exact s
theorem errP_mk (hn : mg n = some (.ref C)) (hm : mg m = some (.ref D)) (h1 : PySem.W.subIn K (.ref D) (.type "BaseException") = some true) (hd : PySem.W.hasDictIn K D = true) (ty : PySem.W.typeIn K (.ref D) = some (.type "type")) (s : PySem.W.subIn K (.ref C) (.ref D) = some b) (hb : b = errSub n m) :
    ErrP ⟨K, mg⟩ n m := ⟨C, D, hn, hm, by subst hb; exact PySem.W.exm_ref h1 hd ty s⟩
theorem kitP_mk (hn : mg n = some (.ref C)) (hm : mg m = some (.ref D)) (hd : PySem.W.hasDictIn K D = true) (ty : PySem.W.typeIn K (.ref D) = some (.type "type")) (self : PySem.W.subIn K (.ref C) (.ref C) = some true) (s : PySem.W.subIn K (.ref C) (.ref D) = some b) (hb : b = errSub n m) :
    KitP ⟨K, mg⟩ n m := ⟨C, D, hn, hm, by subst hb; exact kit_ref hd ty self s⟩
end
/-- what all_mk gathers of an error's class at C -/
structure ErrK (K : PySem.W.Frag) (C : Addr) : Prop where
  ox : OexC K C
  xf : XfC K C
  xc : ExcC K C
section
variable {P : Program} {w : World} {K : PySem.W.Frag} {mg : Str → Option Value} {base : Heap} {n f g y z qual : Str} {C fI c cc : Addr} {fd : FuncData} {params : Arguments} {body : List Stmt} {scope : Scope}
theorem err1 (T : OexC K C) (hmg : mg n = some (.ref C)) (iC : PySem.W.findIn K (.ref C) "__init__" = some (some (.ref fI))) (tI : PySem.W.typeIn K (.ref fI) = some (.type "function")) (S : SupF P K C fI c cc qual params body scope fd) (hB : Binds K fd ["self", y] [])
    (NS : NScope ["self", y, "__class__"] ["self", y] ["__class__"] scope) (hp : ∃ ar, (params.posonlyargs ++ params.args).head? = some ar ∧ ar.arg = "self") (hm : mg "super" = none) (ks : scope.names.lookup ("super" : Str) = some .globalImplicit)
    (hb : ∃ q1 q2 q3 q4, ∀ env, SupB env body [.Assign [.Attribute (.Name "self" q1) f q2] (.Name y q3) q4]) (hf : PySem.W.findIn K (.ref C) f = some none) (hy : (y == ("__debug__" : Str)) = false ∧ (y == ("__classdict__" : Str)) = false := by decide) : ErrMk P w K mg base 1 n [f] := by
  obtain ⟨ar, hp, ha⟩ := hp
  obtain ⟨q1, q2, q3, q4, hb⟩ := hb
  exact ⟨C, fI, fd, _, _, _, hmg, T, iC, tI, fn_sup S NS hp (by rw [ha]; rfl) hm ks hb (fun _ _ _ _ _ => pss_one (ps_ost (pe_var rfl (.inl (NS.par _ (by simp)))) (pe_var rfl (.inl (NS.par _ (by simp))) hy.1 hy.2))), hB, flds1 T hf⟩
theorem err2 (T : OexC K C) (hmg : mg n = some (.ref C)) (iC : PySem.W.findIn K (.ref C) "__init__" = some (some (.ref fI))) (tI : PySem.W.typeIn K (.ref fI) = some (.type "function")) (S : SupF P K C fI c cc qual params body scope fd) (hB : Binds K fd ["self", y, z] [])
    (NS : NScope ["self", y, z, "__class__"] ["self", y, z] ["__class__"] scope) (hp : ∃ ar, (params.posonlyargs ++ params.args).head? = some ar ∧ ar.arg = "self") (hm : mg "super" = none) (ks : scope.names.lookup ("super" : Str) = some .globalImplicit)
    (hb : ∃ q1 q2 q3 q4 r1 r2 r3 r4, ∀ env, SupB env body [.Assign [.Attribute (.Name "self" q1) f q2] (.Name y q3) q4, .Assign [.Attribute (.Name "self" r1) g r2] (.Name z r3) r4]) (hf : PySem.W.findIn K (.ref C) f = some none) (hg : PySem.W.findIn K (.ref C) g = some none)
    (hy : (y == ("__debug__" : Str)) = false ∧ (y == ("__classdict__" : Str)) = false := by decide) (hz : (z == ("__debug__" : Str)) = false ∧ (z == ("__classdict__" : Str)) = false := by decide) : ErrMk P w K mg base 1 n [f, g] := by
  obtain ⟨ar, hp, ha⟩ := hp
  obtain ⟨q1, q2, q3, q4, r1, r2, r3, r4, hb⟩ := hb
  exact ⟨C, fI, fd, _, _, _, hmg, T, iC, tI, fn_sup S NS hp (by rw [ha]; rfl) hm ks hb (fun _ _ _ _ _ => pss_cons (ps_ost (pe_var rfl (.inl (NS.par _ (by simp)))) (pe_var rfl (.inl (NS.par _ (by simp))) hy.1 hy.2))
    (pss_one (ps_ost (pe_var rfl (.inl (NS.par _ (by simp)))) (pe_var rfl (.inl (NS.par _ (by simp))) hz.1 hz.2)))), hB, flds2 T hf hg⟩
theorem ErrK.toC (E : ErrK K C) {ns : List Str} (hmg : mg n = some (.ref C)) (hf : ∀ f ∈ ns, PySem.W.findIn K (.ref C) f = some none) (ve : PySem.W.subIn K (.ref C) (.type "ValueError") = some true) : ErrC ⟨K, mg⟩ n ns := ⟨C, hmg, E.xf, E.xc, hf, kit_ve ve⟩
end
section
variable {X : Cx} {c : Cf} {body : List Stmt} {h0 : ExceptHandler} {hds : List ExceptHandler} {pos : Pos} {L A : List Str} {fb : Ev → Out} {cs : List TryCl}
theorem ds_tryT (hs : X.stack = X.env :: X.outer) (hf : X.env.frame = some X.env.locals) (hN : X.N.Nodup) (tk : Takes X c.W) (hM : c.M = ⟨X.K, X.mg⟩) (hp : ∀ n ∈ L, ∀ m ∈ A, ErrP ⟨X.K, X.mg⟩ n m) (hm : ∀ m ∈ A, ∃ D, X.mg m = some (.ref D))
    (hb : ∀ (W : WX) (pn : List (Addr × Obj)) (xe : Value → Shared → Prop), Takes (X.tr pn xe) W → PassesOwn (model X.prog X.w) X.A X.env xe → DSs (X.tr pn xe) { c with W := W } body fb) (hh : DHs X c (h0 :: hds) cs) (hA : ∀ m ∈ cs.map (fun k => k.1), m ∈ A := by decide) :
    DS X c (.Try body (h0 :: hds) [] [] pos) (tryS L fb cs) :=
  ds_try hs hf hN tk hM (fun n hn k hk => by rw [hM]; exact hp n hn _ (hA _ (List.mem_map_of_mem hk))) (fun k hk => by rw [hM]; exact hm _ (hA _ (List.mem_map_of_mem hk))) hb hh
theorem all_cons {α : Type} {Q : α → Prop} {a : α} {l : List α} (h : Q a) (t : ∀ x ∈ l, Q x) : ∀ x ∈ a :: l, Q x := List.forall_mem_cons.mpr ⟨h, t⟩
theorem all_nil {α : Type} {Q : α → Prop} : ∀ x ∈ ([] : List α), Q x := fun _ h => nomatch h
end
end Nv
-- N36
namespace Nv
open PySem PySem.Spec PyProof.Rows L2
open Evl (Ex)
/-- a builtin method with one argument; tyD: what it is asked of -/
def mth1O (tyD : D → Bool) (g : D → D → Option AV) (f1 f2 : Ev → Rs OV) : Ev → Rs AV := fun Γ => (f1 Γ).bind fun o1 Γ => match o1.get Γ with
  | some d => if tyD d = true then (f2 Γ).bind fun o2 Γ => op2R g o1 o2 Γ else .bad
  | none => .bad
section
variable {X : Cx} {c : Cf} {o e : Expr} {pos apos : Pos} {name : Str} {T id : String} {r : V → List V → Hp → VK → Prop} {g : D → D → Option AV} {tyD : D → Bool} {f1 f2 : Ev → Rs OV}
def isS : D → Bool
  | .str _ => true
  | _ => false
def isL : D → Bool
  | .lst _ => true
  | _ => false
end
def gFmt : D → Option AV
  | .str y => if y.length ≤ sizeLine then some (.dat (.str y)) else none
  | .int i => if i.natAbs.log2 < 1920 then some (.dat (.str (Str.ofString (toString i)))) else none
  | _ => none
def fjs : List (Ev → Rs AV) → Str → Ev → Rs AV
  | [], acc, Γ => .ok (.dat (.str acc)) Γ
  | f :: r, acc, Γ => (f Γ).bind fun av Γ1 => match av with
    | .dat (.str y) => if (acc ++ y).length ≤ sizeLine then fjs r (acc ++ y) Γ1 else .bad
    | _ => .bad
def fstrO (fs : List (Ev → Rs AV)) : Ev → Rs AV := fjs fs Str.empty
section
variable {X : Cx} {c : Cf} {e : Expr} {es : List Expr} {pos : Pos} {f : Ev → Rs OV} {fs : List (Ev → Rs AV)}
end
section
variable {X : Cx} {c : Cf} {e : Expr} {es : List Expr} {pos p : Pos} {f : Ev → Rs (List OV)} {L : List Str}
end
end Nv
-- N37
namespace Nv
open PySem PySem.Spec PyProof.Rows L2
section
variable {Γ : Ev} {b b1 b2 : Ev → Rs OV} {as : Ev → Rs (List OV)} {f : Ev → Out} {o1 o2 ov : OV} {os : List OV} {ty : D → Bool} {g : D → D → Option AV} {n m : Str} {ns L : List Str} {cs : List TryCl} {l : List D} {acc : Str} {fs : List (Ev → Rs AV)} {a : Ev → Rs AV}
def kStar2 (l : List D) (os : List OV) (Γ : Ev) : Rs (List OV) := .ok (l.map OV.dat ++ os) Γ
theorem kStar2_ap : kStar2 l os Γ = .ok (l.map OV.dat ++ os) Γ := rfl
def kStar (as : Ev → Rs (List OV)) (ov : OV) (Γ : Ev) : Rs (List OV) := match starR ov Γ with
  | some l => (as Γ).bind (kStar2 l)
  | none => .bad
theorem kStar_ap : kStar as ov Γ = match starR ov Γ with
  | some l => (as Γ).bind (kStar2 l)
  | none => .bad := rfl
theorem starA_ap : starA b as Γ = (b Γ).bind (kStar as) := rfl
def kM2 (g : D → D → Option AV) (o1 o2 : OV) (Γ : Ev) : Rs AV := op2R g o1 o2 Γ
theorem kM2_ap : kM2 g o1 o2 Γ = op2R g o1 o2 Γ := rfl
def kM1 (ty : D → Bool) (g : D → D → Option AV) (b2 : Ev → Rs OV) (o1 : OV) (Γ : Ev) : Rs AV := match o1.get Γ with
  | some d => if ty d = true then (b2 Γ).bind (kM2 g o1) else .bad
  | none => .bad
theorem kM1_ap : kM1 ty g b2 o1 Γ = match o1.get Γ with
  | some d => if ty d = true then (b2 Γ).bind (kM2 g o1) else .bad
  | none => .bad := rfl
theorem mth1O_ap : mth1O ty g b1 b2 Γ = (b1 Γ).bind (kM1 ty g b2) := rfl
def kFjs (fs : List (Ev → Rs AV)) (acc : Str) (av : AV) (Γ : Ev) : Rs AV := match av with
  | .dat (.str y) => if (acc ++ y).length ≤ sizeLine then fjs fs (acc ++ y) Γ else .bad
  | _ => .bad
theorem kFjs_ap {y : Str} : kFjs fs acc (.dat (.str y)) Γ = if (acc ++ y).length ≤ sizeLine then fjs fs (acc ++ y) Γ else .bad := rfl
theorem fjs_nil : fjs [] acc Γ = .ok (.dat (.str acc)) Γ := rfl
theorem fjs_cons : fjs (a :: fs) acc Γ = (a Γ).bind (kFjs fs acc) := rfl
theorem fstrO_ap : fstrO fs Γ = fjs fs (SX.S []) Γ := rfl
def kRaise (n : Str) (ns : List Str) (os : List OV) (Γ : Ev) : Out := raiseO n ns os Γ
theorem kRaise_ap : kRaise n ns os Γ = raiseO n ns os Γ := rfl
theorem raiseS_ap2 : raiseS n ns as Γ = (as Γ).out (kRaise n ns) := rfl
theorem tryS_ap : tryS L f cs Γ = tryO L cs (f Γ) := rfl
theorem tryO_nx : tryO L cs (.nx Γ) = .nx Γ := rfl
theorem tryO_rt {av : AV} : tryO L cs (.rt av Γ) = .rt av Γ := rfl
theorem tryO_ex {l : List (Str × D)} : tryO L cs (.ex n l Γ) = if n ∈ L then goT n l Γ cs else .bad := rfl
theorem endT_rt {av : AV} {i : Option Nat} : endT i (.rt av Γ) = .rt av Γ := rfl
theorem endT_nx {i : Option Nat} : endT i (.nx Γ) = offX .nx i Γ := rfl
end
theorem dats_map : ∀ {l : List D} {os : List OV}, dats (l.map OV.dat ++ os) = (dats os).map (l ++ ·)
  | [], os => by
    cases h : dats os <;> simp [h]
  | d :: l, os => by
    rw [List.map_cons, List.cons_append, dats, dats_map]
    cases dats os <;> rfl
section
variable {l : List Tx} {a b : Tx} {n c : Nat}
theorem numT (n : Nat) : Str.ofString (toString ((n : Nat) : Int)) = SX.S (TL.numL n) := SX.num_S n
theorem log1920 (h : n < 2 ^ 62) : ((n : Nat) : Int).natAbs.log2 < 1920 := by
  rw [Int.natAbs_natCast]
  by_cases z : n = 0
  · subst z; decide
  · have := (Nat.log2_lt z).mpr h
    omega
theorem gStr_S : gStr (tD a) = some (.dat (tD a)) := rfl
theorem gStr_n (h : n < 4611686018427387904) : gStr (.int (n : Nat)) = some (.dat (tD (TL.numL n))) := by
  unfold gStr
  dsimp only
  rw [if_pos (log1920 h), numT]
theorem gFmt_S (h : a.length ≤ sizeLine) : gFmt (tD a) = some (.dat (tD a)) := by
  unfold gFmt
  dsimp only
  rw [S_length, if_pos h]
theorem gFmt_n (h : n < 4611686018427387904) : gFmt (.int (n : Nat)) = some (.dat (tD (TL.numL n))) := by
  unfold gFmt
  dsimp only
  rw [if_pos (log1920 h), numT]
theorem gSort_S (h : l.length < 64) : gSort (.lst (l.map tD)) = some (.own (.lst ((sortT l).map tD))) := by
  unfold gSort txtsOf
  dsimp only
  rw [strsO_map]
  dsimp only
  rw [List.length_map, if_pos h, sortS_S, List.map_map]
  rfl
end
section
variable {α ι : Type} {gd : TgF} {t : Ev → Rs Bool} {body : α → Ev → Option (α × Ev)}
/-- a comprehension without a test, told by what is gathered -/
theorem loopN_go {Γ0 Γ : Ev} (e : ι → D) (nxt : α → ι → α) (I : List ι → α → Prop)
    (h : ∀ x xs acc, I (x :: xs) acc → (∃ Γ1, gd (e x) Γ = some Γ1 ∧ ∃ Γ2, t Γ1 = .ok true Γ2 ∧ ∃ Γ3, body acc Γ2 = some (nxt acc x, Γ3) ∧ anchor Γ0 Γ3 = Γ) ∧ I xs (nxt acc x)) :
    ∀ (xs : List ι) (acc : α), I xs acc → loopN body Γ0 gd t (xs.map e) acc Γ = some (xs.foldl nxt acc, Γ)
  | [], acc, _ => rfl
  | x :: xs, acc, hI => by
    obtain ⟨⟨Γ1, h1, Γ2, h2, Γ3, h3, h4⟩, h5⟩ := h x xs acc hI
    rw [List.map_cons, loopN, h1]
    dsimp only
    rw [h2]
    dsimp only
    rw [h3]
    dsimp only
    rw [h4, loopN_go e nxt I h xs _ h5, List.foldl_cons]
end
theorem dats_map0 (l : List D) : dats (l.map OV.dat) = some l := by
  have h := dats_map (l := l) (os := [])
  rw [List.append_nil] at h
  rw [h]
  show some (l ++ []) = _
  rw [List.append_nil]
end Nv
-- N38
namespace Nv
open PySem PySem.Spec PyProof.Rows L2
section
variable {P : Program} {w : World} {K : Type} [DecidableEq K] {knd : KeyKind P w K}
/-- the entries carry these keys -/
def KsOf (knd : KeyKind P w K) : List (Int × Value) → List K → Prop
  | [], [] => True
  | e :: es, k :: ks => (knd.is k e.2 = true ∧ e.1 = knd.hash k ∧ e.2.scannable = true) ∧ KsOf knd es ks
  | _, _ => False
theorem KsOf.len : ∀ {es : List (Int × Value)} {ks : List K}, KsOf knd es ks → es.length = ks.length
  | [], [], _ => rfl
  | e :: es, k :: ks, h => by rw [List.length_cons, List.length_cons, KsOf.len h.2]
  | [], _ :: _, h => h.elim
  | _ :: _, [], h => h.elim
theorem KsOf.perm {es es' : List (Int × Value)} (p : es.Perm es') : ∀ {ks : List K}, KsOf knd es ks → ∃ ks', KsOf knd es' ks' ∧ ks.Perm ks' := by
  induction p with
  | nil => intro ks h; exact ⟨ks, h, .refl _⟩
  | cons x _ ih =>
    intro ks h
    cases ks with
    | nil => exact h.elim
    | cons k ks =>
      obtain ⟨ks', h1, h2⟩ := ih h.2
      exact ⟨k :: ks', ⟨h.1, h1⟩, h2.cons k⟩
  | swap x y l =>
    intro ks h
    match ks, h with
    | a :: b :: ks, h => exact ⟨b :: a :: ks, ⟨h.2.1, h.1, h.2.2⟩, .swap _ _ _⟩
  | trans _ _ ih1 ih2 =>
    intro ks h
    obtain ⟨k1, h1, h2⟩ := ih1 h
    obtain ⟨k2, h3, h4⟩ := ih2 h1
    exact ⟨k2, h3, h2.trans h4⟩
theorem KsOf.elems : ∀ {es : List (Int × Value)} {ks : List K}, KsOf knd es ks → ElemsOf knd es
  | [], [], _ => fun e he => nomatch he
  | e :: es, k :: ks, h => fun x hx => by
    rcases List.mem_cons.mp hx with z | z
    · subst z; exact ⟨⟨k, h.1.1, h.1.2.1⟩, h.1.2.2⟩
    · exact KsOf.elems h.2 x z
  | [], _ :: _, h => h.elim
  | _ :: _, [], h => h.elim
theorem KsOf.mem {k : K} : ∀ {es : List (Int × Value)} {ks : List K}, KsOf knd es ks → (k ∈ ks ↔ ∃ e ∈ es, knd.is k e.2 = true)
  | [], [], _ => ⟨fun z => (nomatch z), fun ⟨e, z, _⟩ => (nomatch z)⟩
  | e :: es, j :: ks, h => by
    rw [List.mem_cons, KsOf.mem h.2]
    constructor
    · rintro (z | ⟨x, h1, h2⟩)
      · subst z; exact ⟨e, List.mem_cons_self, h.1.1⟩
      · exact ⟨x, List.mem_cons_of_mem _ h1, h2⟩
    · rintro ⟨x, h1, h2⟩
      rcases List.mem_cons.mp h1 with z | z
      · subst z; exact .inl (knd.inj _ _ _ h2 h.1.1)
      · exact .inr ⟨x, z, h2⟩
  | [], _ :: _, h => h.elim
  | _ :: _, [], h => h.elim
/-- the set at a: its keys, each once, in the order of its entries -/
def KSet (knd : KeyKind P w K) (h : Heap) (a : Addr) (ks : List K) : Prop :=
  ∃ o es ep t, h.get? a = some o ∧ o.ExactSet ∧ o.data = .set es ep t ∧ KsOf knd es.toList ks ∧ ks.Nodup ∧ es.size < scanBound ∧ t.fits es.size = true ∧ Ris t.place.toList ∧ (w.params.followText "set-order" = true ∨ t.led = true)
theorem KSet.at {h h' : Heap} {a : Addr} {ks : List K} (r : KSet knd h a ks) (keep : ∀ o, h.get? a = some o → h'.get? a = some o) : KSet knd h' a ks := by
  obtain ⟨o, es, ep, t, h1, h2⟩ := r
  exact ⟨o, es, ep, t, keep o h1, h2⟩
section
variable {A : Around} {E : Value → Shared → Prop} {s : Shared} {a : Addr}
theorem kset_tail {g : Bool → Sem Unit} (hg : ∀ (b : Bool) (s₁ : Shared) (Q' : Unit → Shared → Prop), Q' () s₁ → wpAny (model P w) A (g b) Q' E s₁)
    {o : Obj} {es : Array (Int × Value)} {ep : Nat} {t : SetTable} (at_ : s.heap.get? a = some o) (exact_ : o.ExactSet) (dat : o.data = .set es ep t)
    {es1 : Array (Int × Value)} {t2 : SetTable} {ks : List K} (g1 : KsOf knd es1.toList ks) (nd1 : ks.Nodup) (few : es1.size < scanBound) (fit : t2.fits es1.size = true) (ris : Ris t2.place.toList)
    (led : w.params.followText "set-order" = true ∨ t2.led = true) {dummy : Bool} {R : Option Bool → Shared → Prop}
    (go : ∀ h' ks', Heap.SameBut a s.heap h' → KSet knd h' a ks' → ks.Perm ks' → R (some true) { s with heap := h' }) :
    wpAny (model P w) A (do
        storeSet a es1 t2; if (!dummy && t2.tooFull) = true then do { g (relayAll t2 es1 (SetTable.grown es1.size)).2.2; storeSet a (relayAll t2 es1 (SetTable.grown es1.size)).1 (relayAll t2 es1 (SetTable.grown es1.size)).2.1; pure (some true) } else pure (some true)) R E s := by
  refine wpAny_bind (wpAny_storeSet_of at_ dat ?_ (fits_of_scanBound few))
  have at1 := store_at (es' := es1) (t' := t2) at_ dat
  have sb1 := Heap.SameBut.update s.heap a (Obj.putSet es1 t2)
  split
  · have pm := relayAll_perm t2 es1 (SetTable.grown es1.size)
    have fit3 := relayAll_fits t2 es1 (SetTable.grown es1.size)
    have ris3 := relayAll_ris t2 es1 (SetTable.grown es1.size)
    have led3 := relayAll_led t2 es1 (SetTable.grown es1.size)
    generalize relayAll t2 es1 (SetTable.grown es1.size) = Z at pm fit3 ris3 led3 ⊢
    obtain ⟨es2, t3, gave⟩ := Z
    dsimp only at pm fit3 ris3 led3 ⊢
    have size2 : es2.size = es1.size := by rw [← Array.length_toList, pm.length_eq, Array.length_toList]
    have few2 : es2.size < scanBound := by rw [size2]; exact few
    refine wpAny_bind (hg _ _ _ ?_)
    refine wpAny_bind (wpAny_storeSet_of at1 rfl ?_ (fits_of_scanBound few2))
    have at2 := store_at (es' := es2) (t' := t3) at1 rfl
    obtain ⟨ks', k1, k2⟩ := KsOf.perm pm.symm g1
    refine wpAny_pure (go _ ks' (sb1.trans (Heap.SameBut.update _ a _)) ?_ k2)
    exact ⟨_, es2, _, t3, at2, exact_, rfl, k1, k2.nodup_iff.mp nd1, few2, fit3, ris3, led.imp id fun z => by rw [led3]; exact z⟩
  · exact wpAny_pure (go _ ks sb1 ⟨_, es1, _, t2, at1, exact_, rfl, g1, nd1, few, fit, ris, led⟩ (.refl _))
theorem kset_add {k : K} {v : Value} {ks : List K} {Q : Bool → Shared → Prop} (hk : knd.is k v = true) (hs : v.scannable = true) (r : KSet knd s.heap a ks) (room : ks.length + 1 < scanBound)
    (go : ∀ h' ks', Heap.SameBut a s.heap h' → KSet knd h' a ks' → (if k ∈ ks then ks' = ks else (k :: ks).Perm ks') → ∀ b, Q b { s with heap := h' }) :
    wpAny (model P w) A (setAddHashed a v (knd.hash k)) Q E s := by
  obtain ⟨o, es, ep, t, at_, exact_, dat, g, nd, few, fit, ris, led⟩ := r
  have el : ElemsOf knd es.toList := g.elems
  unfold setAddHashed setAddHashedIn
  refine wpAny_holding (wpAny_bind (wpAny_setState_of at_ dat fit ?_))
  dsimp only
  rw [byScan_of hs few el]
  simp only [↓reduceIte]
  unfold setAddByScan
  refine wpAny_bind ?_
  refine wpAny_bind (wpAny_rule ?_)
  refine wpAny_bind (wpAny_setScan_of hk at_ dat fit el ?_)
  cases hfi : List.findIdx? (fun e => knd.is k e.2) es.toList with
  | some j =>
    dsimp only
    obtain ⟨hj, pj, _⟩ := List.findIdx?_eq_some_iff_getElem.mp hfi
    have hm : k ∈ ks := g.mem.mpr ⟨_, List.getElem_mem hj, pj⟩
    exact wpAny_pure (wpAny_pure (go s.heap ks (Heap.SameBut.refl a s.heap) ⟨o, es, ep, t, at_, exact_, dat, g, nd, few, fit, ris, led⟩ (by rw [if_pos hm]) _))
  | none =>
    dsimp only
    have hm : k ∉ ks := fun z => by
      obtain ⟨e, he, q⟩ := g.mem.mp z
      have c := List.findIdx?_eq_none_iff.mp hfi e he
      rw [q] at c
      cases c
    have gave_way : ∀ (b : Bool) {s₁ : Shared} {Q' : Unit → Shared → Prop}, Q' () s₁ → wpAny (model P w) A (match b with | true => rule "set.scan.the-table-gave-way" | false => pure ()) Q' E s₁ := fun b _ _ q => by
      cases b
      · exact wpAny_pure q
      · exact wpAny_rule q
    have pm := layNew_perm t es (knd.hash k) v
    have fit1 := layNew_fits t es (knd.hash k) v
    have ris1 := layNew_ris t es (knd.hash k) v ris
    have led1 := layNew_led t es (knd.hash k) v
    generalize layNew t es (knd.hash k) v = Z at pm fit1 ris1 led1 ⊢
    obtain ⟨es1, t1, dummy, gave⟩ := Z
    dsimp only at pm fit1 ris1 led1 ⊢
    rw [Array.toList_push] at pm
    have pc : es1.toList.Perm ((knd.hash k, v) :: es.toList) := pm.trans (List.perm_append_singleton _ _)
    obtain ⟨ks1, g1, pk⟩ := KsOf.perm pc.symm (show KsOf knd ((knd.hash k, v) :: es.toList) (k :: ks) from ⟨⟨hk, rfl, hs⟩, g⟩)
    have nd1 : ks1.Nodup := pk.nodup_iff.mp (List.nodup_cons.mpr ⟨hm, nd⟩)
    have few1 : es1.size < scanBound := by
      have q := pc.length_eq
      have q2 := g.len
      rw [Array.length_toList, List.length_cons] at q
      omega
    have led' : w.params.followText "set-order" = true ∨ t1.led = true := led.imp id fun z => by rw [led1]; exact z
    have fin : ∀ h' ks', Heap.SameBut a s.heap h' → KSet knd h' a ks' → ks1.Perm ks' → ∀ b, Q b { s with heap := h' } := fun h' ks' sb r p => go h' ks' sb r (by rw [if_neg hm]; exact pk.trans p)
    refine wpAny_bind (gave_way _ ?_)
    split
    · refine wpAny_bind ?_
      rw [hashByValue_scannable 8 hs]
      refine wpAny_pure ?_
      refine kset_tail ?_ at_ exact_ dat g1 nd1 few1 ?_ ?_ ?_ ?_
      · intro b s₁ Q' q; cases b <;> first | exact wpAny_pure q | exact wpAny_rule q
      · first | (split <;> first | exact fit1 | exact SetTable.fits_plain_off fit1) | exact fit1
      · first | (split <;> exact ris1) | exact ris1
      · first | (split <;> exact led') | exact led'
      · intro h' ks' sb r p; dsimp only; exact wpAny_pure (fin h' ks' sb r p _)
    · refine wpAny_bind (wpAny_pure ?_)
      simp only [↓reduceIte]
      refine kset_tail ?_ at_ exact_ dat g1 nd1 few1 fit1 ris1 led' ?_
      · intro b s₁ Q' q; cases b <;> first | exact wpAny_pure q | exact wpAny_rule q
      · intro h' ks' sb r p; dsimp only; exact wpAny_pure (fin h' ks' sb r p _)
theorem kset_new {h : Heap} (e : h.get? a = some { cls := .type "set", dict := none, data := .set #[] 0 (.fresh 0 0 (!w.params.followText "set-order")) }) : KSet knd h a [] :=
  ⟨_, #[], 0, _, e, ⟨rfl, rfl, rfl⟩, rfl, trivial, List.nodup_nil, (by decide), (by rfl), List.Pairwise.nil, by
    show _ ∨ (!w.params.followText "set-order") = true
    cases w.params.followText "set-order" <;> simp⟩
end
end
section
variable {K : Type} [DecidableEq K]
structure GotK (l : List K) (i : Nat) (ks : List K) : Prop where
  nd : ks.Nodup
  mem : ∀ k, k ∈ ks ↔ k ∈ l.take i
theorem GotK.zero (l : List K) : GotK l 0 [] := ⟨List.nodup_nil, fun k => by simp⟩
theorem GotK.len {l ks : List K} {i : Nat} (g : GotK l i ks) : ks.length ≤ i := by
  have h := List.Nodup.length_le_of_subset g.nd (l₂ := l.take i) fun k hk => (g.mem k).mp hk
  exact Nat.le_trans h (by rw [List.length_take]; omega)
theorem GotK.next {l ks ks' : List K} {i : Nat} {k : K} (g : GotK l i ks) (h : l[i]? = some k) (nd : ks'.Nodup) (p : if k ∈ ks then ks' = ks else (k :: ks).Perm ks') : GotK l (i + 1) ks' := by
  have e : l.take (i + 1) = l.take i ++ [k] := by rw [List.take_add_one, h]; rfl
  refine ⟨nd, fun j => ?_⟩
  rw [e, List.mem_append, List.mem_singleton, ← g.mem j]
  split at p
  · rename_i hk
    subst p
    exact ⟨.inl, fun z => z.elim id fun z => z ▸ hk⟩
  · rw [← p.mem_iff, List.mem_cons]
    exact Or.comm
end
section
variable {P : Program} {w : World} {K : Type} [DecidableEq K] {knd : KeyKind P w K} {A : Around} {E : Value → Shared → Prop} {s : Shared}
theorem kset_upd {I : Addr} {fp wr : List Addr} {G : Array GenState → Array GenState → Prop} {n : Nat} {Pv : Nat → Value → Prop} {St : Nat → Shared → Prop} {R : Result → Shared → Prop}
    (W : WalksS P w A.in1 I fp wr G n Pv St) (S : Addr) (off : S ∉ fp) (l : List K) (hn : n = l.length) (few : l.length + 1 < scanBound) (hv : ∀ i v, Pv i v → ∃ k, l[i]? = some k ∧ knd.is k v = true ∧ v.scannable = true) :
    ∀ (j i : Nat) (s : Shared), n - i = j → i ≤ n → St i s → (∃ ks, KSet knd s.heap S ks ∧ GotK l i ks) → (∀ s' ks, Moved (S :: wr) G s s' → KSet knd s'.heap S ks → GotK l n ks → R (.ok (.ret .none)) s') →
      codeAny (model P w) A (.builtin "set.update.loop" ⟨[.ref S, .ref I], []⟩) R s := by
  have offw : S ∉ wr := fun h => off (W.sub _ h)
  have sub : ∀ b ∈ wr, b ∈ S :: wr := fun b hb => List.mem_cons_of_mem _ hb
  intro j
  induction j with
  | zero =>
    rintro i s hj hi st ⟨ks, r, g⟩ hR
    obtain rfl : i = n := by omega
    refine codeAny_builtin F.entry_set_update_loop ?_; rw [Around.under_plainId F.plain_set_update_loop _]
    show wpAny _ A.in1 (pyNext (.ref I) >>= _) _ _ s; refine wpAny_bind (W.done s _ _ st fun s' hm => ?_)
    show wpAny _ A.in1 (ret Value.none) _ _ s'
    exact wpAny_pure (hR s' ks (hm.mono sub) (r.at fun o e => hm.heap S o offw e) g)
  | succ j ih =>
    rintro i s hj hi st ⟨ks, r, g⟩ hR
    have lt : i < n := by omega
    refine codeAny_builtin F.entry_set_update_loop ?_; rw [Around.under_plainId F.plain_set_update_loop _]
    show wpAny _ A.in1 (pyNext (.ref I) >>= _) _ _ s; refine wpAny_bind (W.item i s _ _ lt st fun v s' hP st' hm => ?_)
    obtain ⟨k, hk, his, hsc⟩ := hv i v hP
    have r' : KSet knd s'.heap S ks := r.at fun o e => hm.heap S o offw e
    show wpAny _ A.in1 (holding [v] (setAdd S v) >>= _) _ _ s'
    refine wpAny_bind (wpAny_holding ?_); unfold setAdd
    refine wpAny_holding ?_; refine wpAny_bind (knd.pyHash (k := k) his ?_)
    refine kset_add (s := { s' with toks := s'.toks + 1 }) his hsc r' (by have := g.len; omega) fun h' ks' sb r2 p b => ?_
    have nd' : ks'.Nodup := by obtain ⟨_, _, _, _, _, _, _, _, nd, _⟩ := r2; exact nd
    refine wpAny_pure ⟨plainId_quiet F.plain_set_update_loop _, ih (i + 1) _ (by omega) lt (W.frame _ s' _ _ st' (Nat.le_succ _) fun b hb o e => ?_) ⟨ks', r2, g.next hk nd' p⟩ fun s'' ks2 hm2 r3 g3 => ?_⟩
    · rw [sb.2 b (fun h : b = S => off (h ▸ hb))]; exact e
    · refine hR s'' ks2 (Moved.trans W.gtrans ((hm.mono sub).then_heap (Nat.le_succ _) fun b o hb e => ?_) hm2) r3 g3
      rw [sb.2 b (fun h : b = S => hb (h ▸ List.mem_cons_self))]; exact e
end
end Nv
-- N39
namespace Nv
open PySem PySem.Spec PyProof.Rows L2
section
variable {P : Program} {w : World} {K : Type} [DecidableEq K] {knd : KeyKind P w K} {A : Around} {E : Value → Shared → Prop} {s : Shared}
def emptyS (w : World) : Obj := { cls := .type "set", dict := none, data := .set #[] 0 (.fresh 0 0 (!w.params.followText "set-order")) }
/-- what set(xs) leaves -/
def MadeK (knd : KeyKind P w K) (l : List K) (s : Shared) (h' : Heap) : Prop := ∃ ks, KSet knd h' s.heap.objs.size ks ∧ GotK l l.length ks ∧ ∀ b o, s.heap.get? b = some o → h'.get? b = some o
set_option maxHeartbeats 8000000 in
theorem call_kset {a : Addr} {items : Array Value} (l : List K) {Q : Value → Shared → Prop} (hh : A.handled = none) (hl : s.heap.IsList a items) (size : items.size = l.length)
    (hv : ∀ (i : Nat) (v : Value), items[i]? = some v → ∃ k : K, l[i]? = some k ∧ knd.is k v = true ∧ v.scannable = true) (few : l.length + 1 < scanBound)
    (go : ∀ (h' : Heap) (tk : Nat), MadeK knd l s h' → Q (.ref s.heap.objs.size) { s with heap := h', toks := tk }) :
    wpAny (model P w) A (call (.type "set") [.ref a]) Q E s := by
  obtain ⟨c, tl, hmro⟩ := F.called_set.mro
  have hmade := F.called_set.made; have hsub := F.called_set.sub
  refine wpAny_call (codeAny_of_tree ?_); show wpAny _ _ (callAny (.type "set") _) _ _ _
  refine wpAny_pure ⟨Code.quiet_builtin _ (by decide +kernel), codeAny_builtin PySem.F.entry_type_call ?_⟩; rw [Around.under_plain (weight_type_call_type "set" [.ref a] []) rfl]
  have h1 := F.called_set.notType; have h2 := F.called_set.canCreate
  have hct := F.typeCall_set_1 (.ref a)
  repeat (any_goals (first | assumption | wp_step))
  refine codeAny_mono (code_set_led1 (.ref a) (E := E) (Q₁ := fun obj s₁ => obj = .ref s.heap.objs.size ∧ s₁ = { s with heap := s.heap.push (emptyS w) }) ⟨rfl, rfl⟩) fun r s₁ hr => ?_
  cases r with
  | error e => exact hr
  | ok fl =>
    cases fl with
    | ret obj =>
      obtain ⟨rfl, rfl⟩ := hr
      have hS : (s.heap.push (emptyS w)).get? s.heap.objs.size = some (emptyS w) := Heap.get?_push_size _ rfl
      have hT : Shared.TypeIs { s with heap := s.heap.push (emptyS w) } (.ref s.heap.objs.size) "set" := ⟨_, hS, rfl⟩
      have hli := F.called_set.init.lookup; have hbi := F.called_set.init.bind (.ref s.heap.objs.size)
      repeat (any_goals (first | assumption | wp_step))
      refine codeAny_mono (codeAny_call_builtin (R := wants (fun r s₂ => r = .none ∧ ∃ h' tk, s₂ = { s with heap := h', toks := tk } ∧ MadeK knd l s h') E) F.called_set.init.plain F.entry_set_init (check_set_init_1 hT ?_)) fun r₂ s₂ hr₂ => ?_
      · have hlS : a < s.heap.objs.size := by obtain ⟨o, h, _⟩ := hl; exact Heap.lt_size h
        have hh3 : A.in1.in1.in1.handled = none := by simp [hh]
        have ne1 : a ≠ (s.heap.push (emptyS w)).objs.size := by rw [Heap.size_push]; exact Nat.ne_of_lt (Nat.lt_succ_of_lt hlS)
        have off : s.heap.objs.size ∉ [(s.heap.push (emptyS w)).objs.size, a] := by
          rw [Heap.size_push, List.mem_cons, List.mem_singleton]
          rintro (z | z)
          · exact Nat.ne_of_lt (Nat.lt_succ_self _) z
          · exact Nat.ne_of_gt hlS z
        have first_ : ∀ (I : Obj), KSet knd ((s.heap.push (emptyS w)).push I) s.heap.objs.size [] := fun I => kset_new (Heap.get?_push_of_some _ hS)
        have hneD : (Value.type "list" == Value.type "dict") = false := by decide
        obtain ⟨⟨ocls, odict, odata, oslots⟩, hol, hcl, nl, hdl⟩ := hl
        simp only at hcl hdl; subst hcl; subst hdl
        have hol' : (s.heap.push (emptyS w)).get? a = some { cls := .type "list", dict := odict, data := .seq items nl, slots := oslots } := Heap.get?_push_of_some _ hol
        have s1 := F.sub_list_set; have s2 := F.sub_list_frozenset
        have hl1 : (s.heap.push (emptyS w)).IsList a items := ⟨_, hol', rfl, nl, rfl⟩
        have hl0 : s.heap.IsList a items := ⟨_, hol, rfl, nl, rfl⟩
        unfold Builtin.«set.__init__» noKeywords Builtin.Frozenset.updateFrom; generalize hPI : pyIter = PI
        wp_walk
        subst hPI
        refine wpAny_pyIter_list hl1 ?_; refine wpAny_bind (wpAny_runValue ?_)
        refine kset_upd ((Walks.list hh3 _ a ne1 items).toS) s.heap.objs.size off l size few hv (items.size - 0) 0 _ (by omega) (Nat.zero_le _) ⟨⟨_, Heap.get?_push_size _ rfl, rfl, rfl⟩, (hl1.push _)⟩ ⟨[], first_ _, GotK.zero l⟩ ?_
        intro s' ks hm r g
        obtain ⟨h', g2, d', tk', os'⟩ := s'
        obtain rfl : g2 = s.gens := hm.gens
        obtain rfl : d' = s.drawn := hm.drawn
        obtain rfl : os' = s.os := hm.os
        show wpAny _ _ _ _ _ _; refine wpAny_pure ?_; show wpAny _ _ (ret Value.none) _ _ _
        refine wpAny_pure ⟨rfl, h', tk', rfl, ks, r, size ▸ g, fun b o e => ?_⟩
        have hb := Heap.lt_size e
        refine hm.heap b o (fun z => ?_) (Heap.get?_push_of_some _ (Heap.get?_push_of_some _ e))
        rw [Heap.size_push, List.mem_cons, List.mem_singleton] at z
        rcases z with z | z
        · exact Nat.ne_of_lt hb z
        · exact Nat.ne_of_lt (Nat.lt_succ_of_lt hb) z
      · cases r₂ with
        | error e => exact hr₂
        | ok fl₂ =>
          cases fl₂ with
          | ret r =>
            obtain ⟨rfl, h', tk, rfl, made⟩ := hr₂
            repeat (any_goals (first | assumption | wp_step))
            exact go _ _ made
          | _ => exact hr₂.elim
    | _ => exact hr.elim
end
end Nv
-- N40
namespace Nv
open PySem PySem.Spec PyProof.Rows L2
open Evl (Ex)
def ded (acc : List (List Nat)) : List (List Nat) → List (List Nat)
  | [] => acc
  | x :: r => if x ∈ acc then ded acc r else ded (acc ++ [x]) r
def asc (l : List (List Nat)) : List (List Nat) := sortT (ded [] l)
theorem ded_mem : ∀ (l acc : List (List Nat)) (x : List Nat), x ∈ ded acc l ↔ x ∈ acc ∨ x ∈ l
  | [], acc, x => by simp [ded]
  | y :: r, acc, x => by
    rw [ded, List.mem_cons]
    split
    · rename_i h
      rw [ded_mem r acc x]
      exact ⟨fun z => z.imp id .inr, fun z => z.elim .inl fun z => z.elim (fun z => .inl (z ▸ h)) .inr⟩
    · rw [ded_mem r _ x, List.mem_append, List.mem_singleton, or_assoc]
theorem ded_nd : ∀ (l acc : List (List Nat)), acc.Nodup → (ded acc l).Nodup
  | [], acc, h => h
  | y :: r, acc, h => by
    rw [ded]
    split
    · exact ded_nd r acc h
    · rename_i hy
      exact ded_nd r _ (List.nodup_append.mpr ⟨h, by simp, fun a ha b hb => by
        rw [List.mem_singleton.mp hb]
        exact fun z => hy (z ▸ ha)⟩)
theorem asc_mem {l : List (List Nat)} {x : List Nat} : x ∈ asc l ↔ x ∈ l := by
  unfold asc
  rw [(sortT_perm _).mem_iff, ded_mem]
  simp
/-- all that holds the same texts, each once, ascending, is the same -/
theorem asc_only {l m : List (List Nat)} (nd : m.Nodup) (e : ∀ x, x ∈ m ↔ x ∈ l) : sortT m = asc l := by
  have p : m.Perm (ded [] l) := (List.perm_ext_iff_of_nodup nd (ded_nd l [] List.nodup_nil)).mpr fun x => by rw [e x, ded_mem]; simp
  exact perm_sorted_eq ((sortT_perm m).trans (p.trans (sortT_perm _).symm)) (sortT_sorted _) (sortT_sorted _)
theorem asc_ext {l m : List (List Nat)} (e : ∀ x, x ∈ m ↔ x ∈ l) : asc m = asc l := asc_only (ded_nd m [] List.nodup_nil) fun x => by rw [ded_mem]; simpa using e x
section
variable {X : Cx}
theorem strs_ks {P : Program} {w : World} : ∀ {es : List (Int × Value)} {ks : List Str}, KsOf (PySem.strKind P w) es ks → StrsAre (es.map (·.2)) ks
  | [], [], _ => .nil
  | e :: es, k :: ks, h => by
    obtain ⟨t, ht⟩ := Value.isStrOf_shape h.1.1
    rw [List.map_cons, ht]
    exact .cons k t (strs_ks h.2)
  | [], _ :: _, h => h.elim
  | _ :: _, [], h => h.elim
theorem strs_pm {vs us : List Value} (p : vs.Perm us) : ∀ {ks : List Str}, StrsAre us ks → ∃ ks', StrsAre vs ks' ∧ ks'.Perm ks := by
  induction p with
  | nil => intro ks h; exact ⟨ks, h, .refl _⟩
  | cons x _ ih =>
    intro ks h
    cases h with
    | cons n t hr =>
      obtain ⟨k', h1, h2⟩ := ih hr
      exact ⟨_, .cons n t h1, h2.cons n⟩
  | swap x y l =>
    intro ks h
    cases h with
    | cons n t hr =>
      cases hr with
      | cons m u hr => exact ⟨_, .cons m u (.cons n t hr), .swap _ _ _⟩
  | trans _ _ ih1 ih2 =>
    intro ks h
    obtain ⟨k1, h1, h2⟩ := ih2 h
    obtain ⟨k2, h3, h4⟩ := ih1 h1
    exact ⟨k2, h3, h4.trans h2⟩
theorem sorted_kset {pins : List (Addr × Obj)} {σ : L2.St} {H : Hp} {s : Shared} {a : Addr} {ks : List Str} {Q : VK} (I : Inv X pins σ H s) (hh : X.A.handled = none) (r : KSet (PySem.strKind X.prog X.w) s.heap a ks) (h64 : ks.length < 64)
    (q : ∀ (ys : List Str) (p : Addr), ys.Perm ks → sortedS ys = true → H p = none → Q (.ref p) (upd H p (.lst (ys.map V.str)))) :
    wpAny (model X.prog X.w) X.A (call (.builtin "sorted") [.ref a]) (EP X pins σ Q) X.xe s := by
  obtain ⟨o, es, ep, t, at_, exact_, dat, g, nd, few, fit, ris, led⟩ := r
  refine Calls.call_function_entry PyProof.Rows.kind_sorted PyProof.Rows.plain_sorted PyProof.Rows.entry_sorted (PyProof.Rows.args_sorted1 _) ?_
  unfold Builtin.«sorted»; refine wpAny_bind (m := checkCount "sorted" 1 1 _) (wpAny_pure ?_)
  refine wpAny_bind (collect_set (A := X.A.in1) hh ⟨o, at_, exact_.1, dat⟩ fit few ris led fun s1 vs k1 hz g1 o1 pm => ?_)
  obtain ⟨kv, hS, pk⟩ := strs_pm pm (strs_ks g)
  have hal : vs.length = kv.length := hS.len_eq
  have h64 : kv.length < 64 := by rw [pk.length_eq]; exact h64
  refine wpAny_bind (wpAny_newList ?_ (by rw [hal, sizeLine_eq]; omega))
  have hoL : (s1.heap.push (seqObj "list" vs.toArray 0)).get? s1.heap.objs.size = some (seqObj "list" vs.toArray 0) := Heap.get?_push_size _ rfl
  refine wpAny_bind (wpAny_holding (wpAny_call_entry PyProof.Rows.slot_list_sort ⟨_, hoL, rfl⟩ PyProof.Rows.entry_list_sort
    (list_sort_treeK strKind_oneLt (s := { s1 with heap := s1.heap.push (seqObj "list" vs.toArray 0) }) hoL hS.keysOf (fun v₁ v₂ rest e => keyKind_strs (by rw [← e]; exact hS)) (by rw [hal]; exact h64) fun st' hp hs => ⟨_, rfl, ?_⟩)
    (PyProof.Rows.args_list_sort _)))
  obtain ⟨ys, q1, q2, q3⟩ := sorted_out_str hS hp hs
  obtain ⟨e', he'⟩ := PyProof.Rows.sortedHeap_at (vs := vs) (out := (arrOf st').map (·.2)) hoL
  have hlen : (ys.map V.str).length ≤ sizeLine := by
    rw [List.length_map, q2.length_eq]
    exact Nat.le_trans (Nat.le_of_lt h64) (by decide)
  have hn : H s1.heap.objs.size = none := I.hok.fresh hz
  have keep : ∀ b o, s.heap.get? b = some o → (sortedHeap (s1.heap.push (seqObj "list" vs.toArray 0)) s1.heap.objs.size vs ((arrOf st').map (·.2))).get? b = some o := fun b u e => by
    have q := k1 b u e
    have hb := Heap.lt_size q
    rw [PyProof.Rows.sortedHeap_old (Nat.ne_of_lt hb) (by rw [size_push']; exact Nat.lt_succ_of_lt hb)]
    exact Heap.get?_push_of_some _ q
  refine wpAny_pure ⟨_, rfl, .ref s1.heap.objs.size, upd H s1.heap.objs.size (.lst (ys.map V.str)), ?_, rfl, q ys _ (q2.trans pk) q3 hn⟩
  refine I.call' (s' := { s1 with heap := sortedHeap (s1.heap.push (seqObj "list" vs.toArray 0)) s1.heap.objs.size vs ((arrOf st').map (·.2)) }) (ch := []) o1 (Un.laid keep hz hn)
    (I.hok.laid keep hz (show ObjOk X.prog X.w _ _ _ (.lst (ys.map V.str)) from ⟨hlen, ((arrOf st').map (·.2)).toList, e', vals_of_strs q1, by rw [Array.toArray_toList]; exact he'⟩)) (by
      show AllBare s1.gens
      rw [g1]; exact I.bare) (fun _ z => nomatch z)
/-- what is known of set(xs) -/
def rSS (K : PySem.W.Frag) : V → Hp → VK → Prop := fun x H Q => ∃ (a : Addr) (l : List (List Nat)), x = .ref a ∧ SqL K H a (l.map fun t => V.str (SX.S t)) ∧ l.length < 4000 ∧ (asc l).length < 64 ∧
  ∀ p : Addr, H p = none → Q (.ref p) (upd H p (.lst ((asc l).map fun t => V.str (SX.S t))))
theorem got_ded {l : List (List Nat)} {ks : List Str} (g : GotK (l.map SX.S) l.length ks) : ∃ m : List (List Nat), ks = m.map SX.S ∧ m.Nodup ∧ ∀ x, x ∈ m ↔ x ∈ l := by
  refine ⟨ks.map TL.tl, ?_, ?_, fun x => ?_⟩
  · rw [List.map_map]
    conv => lhs; rw [← List.map_id ks]
    exact List.map_congr_left fun x _ => (SX.S_tl x).symm
  · refine List.Pairwise.map TL.tl (fun a b hab e => hab ?_) g.nd
    have h := congrArg SX.S e
    rw [SX.S_tl, SX.S_tl] at h
    exact h
  · rw [List.mem_map]
    have ht : (l.map SX.S).take l.length = l.map SX.S := List.take_of_length_le (by rw [List.length_map]; omega)
    constructor
    · rintro ⟨k, hk, rfl⟩
      have h := (g.mem k).mp hk
      rw [ht, List.mem_map] at h
      obtain ⟨y, hy, rfl⟩ := h
      exact hy
    · intro hx
      exact ⟨SX.S x, (g.mem _).mpr (by rw [ht]; exact List.mem_map_of_mem hx), rfl⟩
theorem strs_get {us : List Value} {l : List (List Nat)} (h : Vals (l.map fun t => V.str (SX.S t)) us) {P : Program} {w : World} : us.length = (l.map SX.S).length ∧
    ∀ (i : Nat) (v : Value), us.toArray[i]? = some v → ∃ k : Str, (l.map SX.S)[i]? = some k ∧ (PySem.strKind P w).is k v = true ∧ v.scannable = true := by
  have hl : us.length = (l.map SX.S).length := by rw [← h.length, List.length_map, List.length_map]
  refine ⟨hl, fun i v e => ?_⟩
  have e' : us[i]? = some v := by simpa using e
  have hi : i < l.length := by
    have := (List.getElem?_eq_some_iff.mp e').1
    rw [hl, List.length_map] at this
    exact this
  obtain ⟨u, hu, t, ht⟩ := h.get (i := i) (x := .str (SX.S l[i])) (by simp [hi])
  rw [e'] at hu
  cases hu
  subst ht
  exact ⟨SX.S l[i], by simp [hi], PySem.strKind_is _ _ _ _, rfl⟩
theorem boot_sorted : bootBuiltins "sorted" = some (.builtin "sorted") := by decide +kernel
theorem boot_setT : bootBuiltins "set" = some (.type "set") := by decide +kernel
theorem pe_sset {a : Expr} {ta : TE} {p p2 q pos : Pos} (hc : X.calm = true) (hm : X.mg "sorted" = none) (hm2 : X.mg "set" = none) (ha : PE X a ta) (hg : Gl X "sorted" := by rfl) (hg2 : Gl X "set" := by rfl)
    (na : starEach [a] X.env = (false, eval a X.env) :: starEach [] X.env := by rfl) : PE X (.Call (.Name "sorted" p) [.Call (.Name "set" p2) [a] [] q] [] pos) (tUn (rSS X.K) ta) := by
  refine ⟨fun pins s σ H Q I h => ?_⟩
  refine Call_ (ld_blt I hg hm boot_sorted ?_); refine PyProof.Rows.callWith_builtin1 (PyProof.Rows.args_cons ?_ rfl) rfl rfl
  refine Call_ (ld_blt I hg2 hm2 boot_setT ?_)
  refine PyProof.Rows.callWith_type1 (PyProof.Rows.args_cons (thn (ha.run pins s σ H _ I h) fun v s1 ⟨x, H1, I1, r1, q1⟩ => PyProof.Rows.args_nil ?_) na) na rfl
  obtain ⟨l, xs, rfl, hq, hn, h64, q1⟩ := q1
  cases r1
  obtain ⟨its, r, pl, hz⟩ := I1.list hq
  obtain ⟨g1, g2⟩ := strs_get r (P := X.prog) (w := X.w)
  have hh : X.A.handled = none := I1.ok.hd hc
  refine call_kset (knd := PySem.strKind X.prog X.w) (xs.map SX.S) hh pl.isList (by rw [List.size_toArray]; exact g1) g2 (by rw [List.length_map]; show _ < 4096; omega) fun h' tk ⟨ks, r2, got, keep⟩ => PyProof.Rows.args_nil ?_
  rw [List.length_map] at got
  obtain ⟨m, rfl, nd, mem⟩ := got_ded got
  have e1 := asc_only nd mem
  refine sorted_kset (I1.kept keep) hh r2 (by rw [List.length_map, ← (sortT_perm m).length_eq, e1]; exact h64) fun ys p hp hs hn => ?_
  rw [sortS_eq hp hs, sortS_S, e1, List.map_map]
  exact q1 p hn
end
section
variable {X : Cx} {c : Cf}
/-- sorted(set(xs)) of data -/
def gSset (d : D) : Option AV := match d with
  | .lst l => (match strsO l with
    | some ks => if ks.length < 4000 ∧ (asc (ks.map TL.tl)).length < 64 then some (.own (.lst ((asc (ks.map TL.tl)).map fun t => .str (SX.S t)))) else none
    | none => none)
  | _ => none
theorem do_sset {a : Expr} {p p2 q pos : Pos} {f : Ev → Rs OV} (hM : c.M = ⟨X.K, X.mg⟩) (hc : X.calm = true) (hm : X.mg "sorted" = none) (hm2 : X.mg "set" = none) (ha : DB X c a f) (hg : Gl X "sorted" := by rfl) (hg2 : Gl X "set" := by rfl)
    (na : starEach [a] X.env = (false, eval a X.env) :: starEach [] X.env := by rfl) : DO X c (.Call (.Name "sorted" p) [.Call (.Name "set" p2) [a] [] q] [] pos) (op1 gSset f) := by
  refine PE.of (pe_sset hc hm hm2 ha hg hg2 na) fun σ H Q qq => ?_
  refine rd_op1 (r := rSS X.K) ?_ qq
  intro F H x d av Q sub r1 e h
  unfold gSset at e
  split at e
  · rename_i l
    split at e
    · rename_i ks hk
      split at e
      · rename_i hh
        cases e
        obtain ⟨b, xs, rfl, h1, h2⟩ := r1_lst r1
        rw [strsO_eq hk] at h2
        obtain ⟨h3, h4⟩ := h2.strs
        subst h3
        have e0 : ks.map V.str = (ks.map TL.tl).map fun t => V.str (SX.S t) := by
          rw [List.map_map]
          exact List.map_congr_left fun x _ => by show V.str x = V.str (SX.S (TL.tl x)); rw [SX.S_tl]
        refine ⟨b, ks.map TL.tl, rfl, by rw [← e0]; exact SqL.of h1, by rw [List.length_map]; exact hh.1, hh.2, fun p hn => ?_⟩
        refine fin_lst sub h hn ?_
        have e2 : ∀ (l : List (List Nat)), (∀ t ∈ l, PyData.strOk (SX.S t) = true) → Reps c.M F (l.map fun t => D.str (SX.S t)) (l.map fun t => V.str (SX.S t)) := by
          intro l
          induction l with
          | nil => intro _; exact Reps.nil
          | cons t l ih => intro hl; exact Reps.cons (rep_str.mpr ⟨rfl, hl t List.mem_cons_self⟩) (ih fun u hu => hl u (List.mem_cons_of_mem _ hu))
        refine e2 _ fun t ht => ?_
        rw [asc_mem, List.mem_map] at ht
        obtain ⟨k, hk, rfl⟩ := ht
        rw [List.all_eq_true] at h4
        rw [SX.S_tl]; exact h4 k hk
      · cases e
    · cases e
  · cases e
end
theorem gSset_S {l : List Tx} (h1 : l.length < 4000) (h2 : (asc l).length < 64) : gSset (.lst (l.map tD)) = some (.own (.lst ((asc l).map tD))) := by
  unfold gSset
  dsimp only
  rw [strsO_map]
  have e : (l.map SX.S).map TL.tl = l := by
    rw [List.map_map]
    conv => rhs; rw [← List.map_id l]
    exact List.map_congr_left fun x _ => rfl
  dsimp only
  rw [e, List.length_map, if_pos ⟨h1, h2⟩]
end Nv
-- N41
namespace Nv
open PySem PySem.Spec PyProof.Rows L2
open Evl (Ex)
open PySem.W (AllAlike Sortable EachIs dataLe alike sort_maps)
/-- a value and what it reads as -/
abbrev VP := V × PyData
def rSortV (K : PySem.W.Frag) : List V → Hp → VK → Prop := fun vs H Q => ∃ (a : Addr) (bs : List VP), vs = [.ref a] ∧ SqL K H a (bs.map (·.1)) ∧ (∀ b ∈ bs, Dp K H b.1 b.2 ∧ b.2.depth ≤ 60) ∧ AllAlike (bs.map (·.2)) ∧ Sortable (bs.map (·.2)) ∧ bs.length ≤ 1000000 ∧
  ∀ p : Addr, H p = none → Q (.ref p) (upd H p (.lst ((bs.mergeSort (dataLe false fun p : VP => p.2)).map (·.1))))
theorem each_of {X : Cx} {pins : List (Addr × Obj)} {σ : L2.St} {H : Hp} {s : Shared} (I : L2.Inv X pins σ H s) : ∀ {bs : List VP} {us : List Value}, Vals (bs.map (·.1)) us → (∀ b ∈ bs, Dp X.K H b.1 b.2) →
    EachIs (fun v (b : VP) => RelV b.1 v) us bs ∧ EachIs (fun v (b : VP) => ∃ as, Reads s.heap v b.2 as) us bs
  | [], _, r, _ => by cases r; exact ⟨.nil, .nil⟩
  | b :: bs, _, r, h => by
    rw [List.map_cons] at r
    cases r with
    | cons h1 h2 =>
      obtain ⟨e1, e2⟩ := each_of I h2 fun x hx => h x (List.mem_cons_of_mem _ hx)
      exact ⟨.cons h1 e1, .cons (Dp.reads I _ _ _ (h b List.mem_cons_self) h1) e2⟩
theorem each_vals : ∀ {us : List Value} {bs : List VP}, EachIs (fun v (b : VP) => RelV b.1 v) us bs → Vals (bs.map (·.1)) us
  | _, _, .nil => .nil
  | _, _, .cons h t => .cons h (each_vals t)
theorem cr_sortV {X : Cx} (hu : X.A.units + 63 < cLine) : CallR X (.builtin "sorted") (rSortV X.K) := by
  intro pins s σ H vs us Q I r h
  obtain ⟨a, bs, rfl, hs, hd, al, so, few, q⟩ := h
  obtain ⟨u, rfl, rx⟩ := vals1 r
  cases rx
  obtain ⟨its, rv, pl, hz⟩ := I.list hs
  obtain ⟨e1, e2⟩ := each_of I rv fun b hb => (hd b hb).1
  refine PySem.W.sorted_data (enc := fun b : VP => b.2) pl.isList e1 e2 al so (by rw [sizeLine_eq]; omega) (fun b hb => by have := (hd b hb).2; omega) fun out ho eo => ?_
  obtain ⟨c, at_⟩ := sortedAll_at s.heap its (List.toArray out)
  have keep : ∀ b o, s.heap.get? b = some o → (sortedAll s.heap its (List.toArray out)).get? b = some o := fun b o e => sortedAll_old e
  have hp : s.heap.objs.size ≤ s.heap.objs.size + 1 := Nat.le_succ _
  have hn : H (s.heap.objs.size + 1) = none := I.hok.fresh hp
  have vals := each_vals eo
  have hlen : ((bs.mergeSort (dataLe false fun p : VP => p.2)).map (·.1)).length ≤ sizeLine := by
    rw [List.length_map, List.length_mergeSort, sizeLine_eq]; omega
  refine ⟨.ref (s.heap.objs.size + 1), _, ?_, rfl, q _ hn⟩
  exact I.call' (s' := { s with heap := sortedAll s.heap its (List.toArray out) }) (ch := []) rfl (Un.laid keep hp hn)
    (I.hok.laid keep hp (show ObjOk X.prog X.w _ _ _ (.lst _) from ⟨hlen, out, c, vals, at_⟩)) I.bare (fun _ z => nomatch z)
/-- all alike, to be compared -/
def srtOk (l : List D) : Bool := l.all (fun d => (d.eqd.map fun n => decide (n ≤ 60)).getD false) && l.all (fun d => l.all fun e => alike d.py e.py) && (l.all (fun d => match d with | .tup (_ :: _) => true | _ => false) || l.all (fun d => match d with | .bl _ => true | .int _ => true | .str _ => true | .lst _ => true | _ => false)) && decide (l.length ≤ 1000000)
def dLe (a b : D) : Bool := dataLe false D.py a b
def gSortD (d : D) : Option AV := match d with
  | .lst l => if srtOk l = true then some (.own (.lst (l.mergeSort dLe))) else none
  | _ => none
theorem reps_zip {M : Md} {F : Hp} : ∀ {l : List D} {xs : List V}, Reps M F l xs → ∃ z : List (D × V), l = z.map (·.1) ∧ xs = z.map (·.2) ∧ ∀ p ∈ z, Rep M F p.1 p.2
  | [], _, h => by cases reps_nil.mp h; exact ⟨[], rfl, rfl, fun _ h => nomatch h⟩
  | d :: l, _, h => by
    obtain ⟨v, r, rfl, h1, h2⟩ := reps_cons.mp h
    obtain ⟨z, e1, e2, h3⟩ := reps_zip h2
    refine ⟨(d, v) :: z, by rw [e1]; rfl, by rw [e2]; rfl, fun p hp => ?_⟩
    rcases List.mem_cons.mp hp with e | hp
    · subst e; exact h1
    · exact h3 p hp
theorem zip_reps {M : Md} {F : Hp} : ∀ {z : List (D × V)}, (∀ p ∈ z, Rep M F p.1 p.2) → Reps M F (z.map (·.1)) (z.map (·.2))
  | [], _ => Reps.nil
  | p :: z, h => Reps.cons (h p List.mem_cons_self) (zip_reps fun q hq => h q (List.mem_cons_of_mem _ hq))
theorem os_sortD {M : Md} : OpS M (rSortV M.K) (gA1 gSortD) := opS1 fun F H x d av Q sub r1 e h => by
  unfold gSortD at e
  split at e
  · rename_i l
    split at e
    · rename_i hok
      cases e
      unfold srtOk at hok
      rw [Bool.and_eq_true, Bool.and_eq_true, Bool.and_eq_true, decide_eq_true_eq] at hok
      obtain ⟨⟨⟨ok1, ok2⟩, ok3⟩, ok4⟩ := hok
      obtain ⟨a, xs, rfl, h1, h2⟩ := r1_lst r1
      obtain ⟨z, rfl, rfl, hz⟩ := reps_zip h2
      have ok1' : ∀ p ∈ z, ∃ n, p.1.eqd = some n ∧ n ≤ 60 := fun p hp => by
        have q := (List.all_eq_true.mp ok1) p.1 (List.mem_map_of_mem hp)
        cases hq : p.1.eqd with
        | none => rw [hq] at q; cases q
        | some n => rw [hq] at q; exact ⟨n, rfl, of_decide_eq_true q⟩
      have e0 : ∀ z : List (D × V), (z.map fun p => ((p.2, p.1.py) : VP)).map (·.1) = z.map (·.2) := fun z => by rw [List.map_map]; rfl
      have e1 : (z.map fun p => ((p.2, p.1.py) : VP)).map (·.2) = (z.map (·.1)).map D.py := by rw [List.map_map, List.map_map]; rfl
      refine ⟨a, z.map fun p => (p.2, p.1.py), rfl, by rw [e0]; exact SqL.of h1, fun b hb => ?_, ?_, ?_, by rw [List.length_map] at ok4 ⊢; exact ok4, fun p hn => ?_⟩
      · obtain ⟨p, hp, rfl⟩ := List.mem_map.mp hb
        obtain ⟨n, q1, q2⟩ := ok1' p hp
        obtain ⟨x1, x2, x3⟩ := py_dp (Rep.mono sub (hz p hp)) q1
        exact ⟨x1, by show p.1.py.depth ≤ 60; omega⟩
      · rw [e1]
        intro d hd d' hd'
        obtain ⟨x, hx, rfl⟩ := List.mem_map.mp hd
        obtain ⟨y, hy, rfl⟩ := List.mem_map.mp hd'
        exact (List.all_eq_true.mp ((List.all_eq_true.mp ok2) x hx)) y hy
      · rw [e1]
        rcases Bool.or_eq_true_iff.mp ok3 with q | q
        · refine .inl fun d hd => ?_
          obtain ⟨x, hx, rfl⟩ := List.mem_map.mp hd
          have := (List.all_eq_true.mp q) x hx
          split at this
          · exact ⟨_, _, rfl⟩
          · cases this
        · refine .inr fun d hd => ?_
          obtain ⟨x, hx, rfl⟩ := List.mem_map.mp hd
          have := (List.all_eq_true.mp q) x hx
          cases x <;> first | exact (Bool.false_ne_true this).elim | (unfold D.py; exact ⟨by simp, by simp⟩)
      · have s1 : ((z.map fun p => ((p.2, p.1.py) : VP)).mergeSort (dataLe false fun p : VP => p.2)) = (z.mergeSort fun a b => dLe a.1 b.1).map fun p => ((p.2, p.1.py) : VP) := (sort_maps (fun p : D × V => ((p.2, p.1.py) : VP)) fun a _ b _ => rfl).symm
        have s2 : (z.map (·.1)).mergeSort dLe = (z.mergeSort fun a b => dLe a.1 b.1).map (·.1) := (sort_maps (fun p : D × V => p.1) fun a _ b _ => rfl).symm
        rw [s1, e0]
        rw [s2] at h
        exact fin_lst sub h hn (zip_reps fun p hp => hz p ((List.mergeSort_perm z _).mem_iff.mp hp))
    · cases e
  · cases e
section
variable {X : Cx} {c : Cf} {e : Expr} {es : List Expr} {f : Ev → Rs (List OV)} {p pos : Pos}
/-- sorted of texts, of a list of plain data -/
def gSort2 (d : D) : Option AV := match gSort d with
  | some av => some av
  | none => gSortD d
def rSort2 (K : PySem.W.Frag) : List V → Hp → VK → Prop := fun vs H Q => rSortA K vs H Q ∨ rSortV K vs H Q
theorem os_sort2 {M : Md} : OpS M (rSort2 M.K) (gA1 gSort2) := by
  intro F H vs ds av Q sub r e h
  cases ds with
  | nil => cases e
  | cons d ds =>
    cases ds with
    | cons _ _ => cases e
    | nil =>
      have e' : gSort2 d = some av := e
      unfold gSort2 at e'
      split at e'
      · rename_i av' q
        cases e'
        exact .inl (os_sort F H vs [d] av Q sub r q h)
      · exact .inr (os_sortD F H vs [d] av Q sub r e' h)
theorem do_sorted2 (hM : c.M = ⟨X.K, X.mg⟩) (hu : X.A.units + 65 < cLine) (hc : X.calm = true) (hm : X.mg "sorted" = none) (ha : DA X c (e :: es) f) (hg : Gl X "sorted" := by rfl) (he : starEach (e :: es) X.env = (false, eval e X.env) :: starEach es X.env := by rfl) (hpl : (backTo pos (starEach es X.env)).any (·.1) = false := by rfl) : DO X c (.Call (.Name "sorted" p) (e :: es) [] pos) (opA (gA1 gSort2) f) :=
  do_callB (r := rSort2 X.K) ((cr_sortA hc).or (cr_sortV (by omega))) (by rw [hM]; exact os_sort2) hm ha (hg := hg) (he := he) (hpl := hpl)
end
end Nv
-- N42
namespace Nv
open PySem PySem.Spec PyProof.Rows L2
section
variable {ι S α : Type} {g : TgF} {f : Ev → Out} {t : Ev → Rs Bool} {fe fk fv : Ev → Rs D} {Γ0 Γ Γ1 Γ2 Γ3 : Ev} {d y : D} {b : Bool} {body : α → Ev → Option (α × Ev)} {cs : List DCl} {c : DCl}
def kF1 (f : Ev → Out) : Option Ev → Out
  | some Γ => f Γ
  | none => .bad
def turnF (g : TgF) (f : Ev → Out) (d : D) (Γ : Ev) : Out := kF1 f (g d Γ)
theorem turnF_ap : turnF g f d Γ = kF1 f (g d Γ) := rfl
theorem kF1_ap : kF1 f (some Γ) = f Γ := rfl
theorem turnF_some {o : Out} (h : turnF g f d Γ = o) (nb : o ≠ .bad) : ∃ Γ1, g d Γ = some Γ1 ∧ f Γ1 = o := by
  unfold turnF at h
  cases e : g d Γ with
  | none => rw [e] at h; exact absurd h.symm nb
  | some Γ1 => rw [e] at h; exact ⟨Γ1, rfl, h⟩
def Goes (o : Out) (Γ : Ev) : Prop := o = .nx Γ ∨ o = .ct Γ
/-- a for by what holds ahead of each turn -/
theorem forL_x (e : ι → D) (R : List ι → Ev → Prop) (h : ∀ x xs Γ, R (x :: xs) Γ → ∃ Γ', Goes (turnF g f (e x) Γ) Γ' ∧ R xs Γ') :
    ∀ (xs : List ι) (Γ : Ev), R xs Γ → ∃ Γ', forL g f (xs.map e) Γ = .nx Γ' ∧ R [] Γ' := forL_inv e R fun x xs Γ r => by
  obtain ⟨Γ', h1, h2⟩ := h x xs Γ r
  refine ⟨Γ', ?_, h2⟩
  rcases h1 with h1 | h1
  · obtain ⟨Γ1, h3, h4⟩ := turnF_some h1 (fun z => nomatch z)
    exact ⟨Γ1, h3, .inl h4⟩
  · obtain ⟨Γ1, h3, h4⟩ := turnF_some h1 (fun z => nomatch z)
    exact ⟨Γ1, h3, .inr h4⟩
/-- .. told by a state -/
theorem forL_s (emb : S → Ev) (e : ι → D) (next : S → ι → S) (I : List ι → S → Prop) (xs : List ι) (s : S) (hI : I xs s) (h : ∀ x xs s, I (x :: xs) s → Goes (turnF g f (e x) (emb s)) (emb (next s x)) ∧ I xs (next s x)) :
    forL g f (xs.map e) (emb s) = .nx (emb (xs.foldl next s)) := by
  obtain ⟨Γ', h1, h2⟩ := forL_x (g := g) (f := f) e (fun l Γ => ∃ s', Γ = emb s' ∧ I l s' ∧ l.foldl next s' = xs.foldl next s) (fun x l Γ ⟨s', e1, i, e2⟩ => by
    subst e1
    obtain ⟨h1, h2⟩ := h x l s' i
    exact ⟨_, h1, _, rfl, h2, e2⟩) xs (emb s) ⟨s, rfl, hI, rfl⟩
  obtain ⟨s', e1, _, e2⟩ := h2
  rw [h1, e1, ← e2]
  rfl
/-- .. that leaves all as it is -/
theorem forL_k (e : ι → D) (xs : List ι) (h : ∀ x ∈ xs, Goes (turnF g f (e x) Γ) Γ) : forL g f (xs.map e) Γ = .nx Γ :=
  forL_s (S := Unit) (fun _ => Γ) e (fun _ _ => ()) (fun l _ => ∀ x ∈ l, x ∈ xs) xs () (fun _ h => h) fun x l s hl => ⟨h x (hl x List.mem_cons_self), fun y hy => hl y (List.mem_cons_of_mem _ hy)⟩
def kC3 (Γ0 : Ev) : Rs D → Option (Option D × Ev)
  | .ok y Γ => some (some y, anchor Γ0 Γ)
  | _ => none
def kC2 (Γ0 : Ev) (fe : Ev → Rs D) : Rs Bool → Option (Option D × Ev)
  | .ok b Γ => if b = true then kC3 Γ0 (fe Γ) else some (none, anchor Γ0 Γ)
  | _ => none
def kC1 (Γ0 : Ev) (t : Ev → Rs Bool) (fe : Ev → Rs D) : Option Ev → Option (Option D × Ev)
  | some Γ => kC2 Γ0 fe (t Γ)
  | none => none
def turnC (Γ0 : Ev) (g : TgF) (t : Ev → Rs Bool) (fe : Ev → Rs D) (d : D) (Γ : Ev) : Option (Option D × Ev) := kC1 Γ0 t fe (g d Γ)
theorem turnC_ap : turnC Γ0 g t fe d Γ = kC1 Γ0 t fe (g d Γ) := rfl
theorem kC1_ap : kC1 Γ0 t fe (some Γ) = kC2 Γ0 fe (t Γ) := rfl
theorem kC2_ap : kC2 Γ0 fe (.ok b Γ) = if b = true then kC3 Γ0 (fe Γ) else some (none, anchor Γ0 Γ) := rfl
theorem kC3_ap : kC3 Γ0 (.ok y Γ) = some (some y, anchor Γ0 Γ) := rfl
theorem compL_turn {r : List D} {acc : List D} {o : Option D} {Γ' : Ev} (h : turnC Γ0 g t fe d Γ = some (o, Γ')) (hl : acc.length < sizeLine) : compL Γ0 g t fe (d :: r) acc Γ = compL Γ0 g t fe r (acc ++ o.toList) Γ' := by
  unfold turnC at h
  rw [compL]
  cases hg : g d Γ with
  | none => rw [hg] at h; cases h
  | some Γ1 =>
    rw [hg, kC1_ap] at h
    dsimp only
    cases ht : t Γ1 with
    | ok b Γ2 =>
      rw [ht, kC2_ap] at h
      cases b with
      | true =>
        rw [if_pos rfl] at h
        dsimp only
        cases hf : fe Γ2 with
        | ok y Γ3 =>
          rw [hf] at h
          cases h
          dsimp only
          rw [if_pos hl]
          rfl
        | ex _ _ _ => rw [hf] at h; cases h
        | bad => rw [hf] at h; cases h
      | false =>
        rw [if_neg (by decide)] at h
        cases h
        dsimp only
        rw [Option.toList_none, List.append_nil]
    | ex _ _ _ => rw [ht] at h; cases h
    | bad => rw [ht] at h; cases h
theorem compL_x (e : ι → D) (R : List ι → List D → Ev → Prop) (h : ∀ x xs acc Γ, R (x :: xs) acc Γ → ∃ o Γ', turnC Γ0 g t fe (e x) Γ = some (o, Γ') ∧ R xs (acc ++ o.toList) Γ') :
    ∀ (xs : List ι) (acc : List D) (Γ : Ev), R xs acc Γ → acc.length + xs.length ≤ sizeLine → ∃ acc' Γ', compL Γ0 g t fe (xs.map e) acc Γ = some (acc', Γ') ∧ R [] acc' Γ'
  | [], acc, Γ, r, _ => ⟨acc, Γ, rfl, r⟩
  | x :: xs, acc, Γ, r, hl => by
    rw [List.length_cons] at hl
    obtain ⟨o, Γ', h1, h2⟩ := h x xs acc Γ r
    rw [List.map_cons, compL_turn h1 (by omega)]
    exact compL_x e R h xs _ Γ' h2 (by
      rw [List.length_append]
      cases o with
      | none => rw [Option.toList_none, List.length_nil]; omega
      | some _ => rw [Option.toList_some, List.length_singleton]; omega)
/-- .. that hangs on no state -/
theorem compL_q (e : ι → D) (test : ι → Bool) (val : ι → D) (xs : List ι) (h : ∀ x ∈ xs, turnC Γ0 g t fe (e x) Γ = some (if test x = true then some (val x) else none, Γ)) (hl : xs.length ≤ sizeLine) :
    compL Γ0 g t fe (xs.map e) [] Γ = some ((xs.filter test).map val, Γ) := by
  obtain ⟨acc', Γ', h1, h2, h3⟩ := compL_x (Γ0 := Γ0) (g := g) (t := t) (fe := fe) e (fun l acc Γ' => (∀ x ∈ l, x ∈ xs) ∧ acc ++ (l.filter test).map val = (xs.filter test).map val ∧ Γ' = Γ) (fun x l acc Γ' ⟨a, b, c⟩ => by
    subst c
    refine ⟨_, _, h x (a x List.mem_cons_self), fun y hy => a y (List.mem_cons_of_mem _ hy), ?_, rfl⟩
    rw [← b, List.filter_cons]
    cases ht : test x with
    | true => simp
    | false => simp) xs [] Γ ⟨fun _ h => h, rfl, rfl⟩ (by simpa using hl)
  rw [h1, h3.2, ← h3.1]
  simp
theorem compL_a (e : ι → D) (val : ι → D) (xs : List ι) (h : ∀ x ∈ xs, turnC Γ0 g t fe (e x) Γ = some (some (val x), Γ)) (hl : xs.length ≤ sizeLine) :
    compL Γ0 g t fe (xs.map e) [] Γ = some (xs.map val, Γ) := by
  rw [compL_q e (fun _ => true) val xs (fun x hx => by rw [h x hx, if_pos rfl]) hl, List.filter_eq_self.mpr fun _ _ => rfl]
def kN3 (Γ0 : Ev) : Option (α × Ev) → Option (α × Ev)
  | some p => some (p.1, anchor Γ0 p.2)
  | none => none
def kN2 (body : α → Ev → Option (α × Ev)) (Γ0 : Ev) (acc : α) : Rs Bool → Option (α × Ev)
  | .ok b Γ => if b = true then kN3 Γ0 (body acc Γ) else some (acc, anchor Γ0 Γ)
  | _ => none
def kN1 (body : α → Ev → Option (α × Ev)) (Γ0 : Ev) (t : Ev → Rs Bool) (acc : α) : Option Ev → Option (α × Ev)
  | some Γ => kN2 body Γ0 acc (t Γ)
  | none => none
def turnN (body : α → Ev → Option (α × Ev)) (Γ0 : Ev) (g : TgF) (t : Ev → Rs Bool) (d : D) (acc : α) (Γ : Ev) : Option (α × Ev) := kN1 body Γ0 t acc (g d Γ)
theorem turnN_ap {acc : α} : turnN body Γ0 g t d acc Γ = kN1 body Γ0 t acc (g d Γ) := rfl
theorem kN1_ap {acc : α} : kN1 body Γ0 t acc (some Γ) = kN2 body Γ0 acc (t Γ) := rfl
theorem kN2_ap {acc : α} : kN2 body Γ0 acc (.ok b Γ) = if b = true then kN3 Γ0 (body acc Γ) else some (acc, anchor Γ0 Γ) := rfl
theorem kN3_ap {acc : α} : kN3 Γ0 (some (acc, Γ)) = some (acc, anchor Γ0 Γ) := rfl
def kBN (acc : List D) : Rs D → Option (List D × Ev)
  | .ok y Γ' => if acc.length < sizeLine then some (acc ++ [y], Γ') else none
  | _ => none
theorem kBN_ap {acc : List D} : kBN acc (.ok y Γ) = if acc.length < sizeLine then some (acc ++ [y], Γ) else none := rfl
theorem bodyN_nil {acc : List D} : bodyN fe [] acc Γ = kBN acc (fe Γ) := by
  unfold bodyN kBN
  cases fe Γ <;> rfl
def kBC (fe : Ev → Rs D) (cs : List DCl) (c : DCl) (acc : List D) : Rs (List D) → Option (List D × Ev)
  | .ok items Γ1 => loopN (bodyN fe cs) (wipeG Γ1 c.vs) c.g c.t items acc (wipeG Γ1 c.vs)
  | _ => none
theorem kBC_ap {acc items : List D} : kBC fe cs c acc (.ok items Γ) = loopN (bodyN fe cs) (wipeG Γ c.vs) c.g c.t items acc (wipeG Γ c.vs) := rfl
theorem bodyN_cons {acc : List D} : bodyN fe (c :: cs) acc Γ = kBC fe cs c acc (c.src Γ) := by
  conv => lhs; unfold bodyN
  unfold kBC
  cases c.src Γ <;> rfl
def kBD2 (acc : List (D × D)) (k : D) : Rs D → Option (List (D × D) × Ev)
  | .ok v Γ => if k.key.isSome = true ∧ acc.length < sizeLine then some (dput acc k v, Γ) else none
  | _ => none
def kBD1 (fv : Ev → Rs D) (acc : List (D × D)) : Rs D → Option (List (D × D) × Ev)
  | .ok k Γ => kBD2 acc k (fv Γ)
  | _ => none
theorem kBD1_ap {acc : List (D × D)} : kBD1 fv acc (.ok y Γ) = kBD2 acc y (fv Γ) := rfl
theorem kBD2_ap {acc : List (D × D)} {k : D} : kBD2 acc k (.ok y Γ) = if k.key.isSome = true ∧ acc.length < sizeLine then some (dput acc k y, Γ) else none := rfl
theorem bodyD_ap {acc : List (D × D)} : bodyD fk fv acc Γ = kBD1 fv acc (fk Γ) := by
  unfold bodyD kBD1 kBD2
  cases fk Γ with
  | ok k Γ1 => cases fv Γ1 <;> rfl
  | _ => rfl
end
theorem tn_if {α : Type} {p : Prop} [Decidable p] {a b : α} {Γ : Ev} : (if p then some (a, Γ) else some (b, Γ) : Option (α × Ev)) = some (if p then a else b, Γ) := by split <;> rfl
section
variable {l : List D} {z : Str} {ps : List (D × D)}
theorem it_lst : itemsD (.lst l) = some l := rfl
theorem it_tup : itemsD (.tup l) = some l := rfl
theorem it_fz : itemsD (.fz l) = some l := rfl
theorem it_str : itemsD (.str z) = some (chD z) := rfl
theorem it2_lst : itemsD2 (.lst l) = some l := rfl
theorem it2_tup : itemsD2 (.tup l) = some l := rfl
theorem it2_fz : itemsD2 (.fz l) = some l := rfl
theorem it2_str : itemsD2 (.str z) = some (chD z) := rfl
theorem it2_dct : itemsD2 (.dct ps) = some (ps.map (·.1)) := rfl
end
theorem tc_if {p : Prop} [Decidable p] {v : D} {Γ : Ev} : (if p then some (some v, Γ) else some (none, Γ) : Option (Option D × Ev)) = some (if p then some v else none, Γ) := by split <;> rfl
theorem goes_nx {Γ : Ev} : Goes (.nx Γ) Γ := .inl rfl
theorem goes_ct {Γ : Ev} : Goes (.ct Γ) Γ := .inr rfl
end Nv
-- N43
namespace Nv
open PySem PySem.Spec PyProof.Rows L2
theorem fc_Machine_signs : (("Machine" : Str) ∈ ([("Machine" : Str), ("Rule" : Str), ("Edits" : Str), ("Table" : Str)] : List Str)) = True := eq_true (by decide)
theorem fp_Machine_signs {a0 : D} : putD ("signs" : Str) a0 [] = [(("signs" : Str), a0)] := rfl
theorem fg_Machine_signs_0 {a0 : D} : gFld ("signs" : Str) [("Machine" : Str), ("Rule" : Str), ("Edits" : Str), ("Table" : Str)] (.ins ("Machine" : Str) [(("signs" : Str), a0)]) = some (.dat a0) := rfl
theorem fg_Machine_signs_1 {a0 a1 : D} : gFld ("signs" : Str) [("Machine" : Str), ("Rule" : Str), ("Edits" : Str), ("Table" : Str)] (.ins ("Machine" : Str) [(("signs" : Str), a0), (("rows" : Str), a1)]) = some (.dat a0) := rfl
theorem fg_Machine_signs_2 {a0 a1 a2 : D} : gFld ("signs" : Str) [("Machine" : Str), ("Rule" : Str), ("Edits" : Str), ("Table" : Str)] (.ins ("Machine" : Str) [(("signs" : Str), a0), (("rows" : Str), a1), (("ends" : Str), a2)]) = some (.dat a0) := rfl
theorem fg_Machine_signs_3 {a0 a1 a2 a3 : D} : gFld ("signs" : Str) [("Machine" : Str), ("Rule" : Str), ("Edits" : Str), ("Table" : Str)] (.ins ("Machine" : Str) [(("signs" : Str), a0), (("rows" : Str), a1), (("ends" : Str), a2), (("all_keys" : Str), a3)]) = some (.dat a0) := rfl
theorem fc_Machine_rows : (("Machine" : Str) ∈ ([("Machine" : Str), ("Edits" : Str), ("Table" : Str), ("Reading" : Str)] : List Str)) = True := eq_true (by decide)
theorem fp_Machine_rows {a0 a1 : D} : putD ("rows" : Str) a1 [(("signs" : Str), a0)] = [(("signs" : Str), a0), (("rows" : Str), a1)] := rfl
theorem fg_Machine_rows_1 {a0 a1 : D} : gFld ("rows" : Str) [("Machine" : Str), ("Edits" : Str), ("Table" : Str), ("Reading" : Str)] (.ins ("Machine" : Str) [(("signs" : Str), a0), (("rows" : Str), a1)]) = some (.dat a1) := rfl
theorem fg_Machine_rows_2 {a0 a1 a2 : D} : gFld ("rows" : Str) [("Machine" : Str), ("Edits" : Str), ("Table" : Str), ("Reading" : Str)] (.ins ("Machine" : Str) [(("signs" : Str), a0), (("rows" : Str), a1), (("ends" : Str), a2)]) = some (.dat a1) := rfl
theorem fg_Machine_rows_3 {a0 a1 a2 a3 : D} : gFld ("rows" : Str) [("Machine" : Str), ("Edits" : Str), ("Table" : Str), ("Reading" : Str)] (.ins ("Machine" : Str) [(("signs" : Str), a0), (("rows" : Str), a1), (("ends" : Str), a2), (("all_keys" : Str), a3)]) = some (.dat a1) := rfl
theorem fc_Machine_ends : (("Machine" : Str) ∈ ([("Machine" : Str)] : List Str)) = True := eq_true (by decide)
theorem fp_Machine_ends {a0 a1 a2 : D} : putD ("ends" : Str) a2 [(("signs" : Str), a0), (("rows" : Str), a1)] = [(("signs" : Str), a0), (("rows" : Str), a1), (("ends" : Str), a2)] := rfl
theorem fg_Machine_ends_2 {a0 a1 a2 : D} : gFld ("ends" : Str) [("Machine" : Str)] (.ins ("Machine" : Str) [(("signs" : Str), a0), (("rows" : Str), a1), (("ends" : Str), a2)]) = some (.dat a2) := rfl
theorem fg_Machine_ends_3 {a0 a1 a2 a3 : D} : gFld ("ends" : Str) [("Machine" : Str)] (.ins ("Machine" : Str) [(("signs" : Str), a0), (("rows" : Str), a1), (("ends" : Str), a2), (("all_keys" : Str), a3)]) = some (.dat a2) := rfl
theorem fc_Machine_all_keys : (("Machine" : Str) ∈ ([("Machine" : Str), ("Rule" : Str)] : List Str)) = True := eq_true (by decide)
theorem fp_Machine_all_keys {a0 a1 a2 a3 : D} : putD ("all_keys" : Str) a3 [(("signs" : Str), a0), (("rows" : Str), a1), (("ends" : Str), a2)] = [(("signs" : Str), a0), (("rows" : Str), a1), (("ends" : Str), a2), (("all_keys" : Str), a3)] := rfl
theorem fg_Machine_all_keys_3 {a0 a1 a2 a3 : D} : gFld ("all_keys" : Str) [("Machine" : Str), ("Rule" : Str)] (.ins ("Machine" : Str) [(("signs" : Str), a0), (("rows" : Str), a1), (("ends" : Str), a2), (("all_keys" : Str), a3)]) = some (.dat a3) := rfl
theorem fm_Machine_after {a0 a1 a2 a3 : D} : isIns ("Machine" : Str) ("after" : Str) (.ins ("Machine" : Str) [(("signs" : Str), a0), (("rows" : Str), a1), (("ends" : Str), a2), (("all_keys" : Str), a3)]) = true := rfl
theorem fm_Machine_far_keys {a0 a1 a2 a3 : D} : isIns ("Machine" : Str) ("far_keys" : Str) (.ins ("Machine" : Str) [(("signs" : Str), a0), (("rows" : Str), a1), (("ends" : Str), a2), (("all_keys" : Str), a3)]) = true := rfl
theorem fm_Machine_keys_of {a0 a1 a2 a3 : D} : isIns ("Machine" : Str) ("keys_of" : Str) (.ins ("Machine" : Str) [(("signs" : Str), a0), (("rows" : Str), a1), (("ends" : Str), a2), (("all_keys" : Str), a3)]) = true := rfl
theorem fm_Machine_read {a0 a1 a2 a3 : D} : isIns ("Machine" : Str) ("read" : Str) (.ins ("Machine" : Str) [(("signs" : Str), a0), (("rows" : Str), a1), (("ends" : Str), a2), (("all_keys" : Str), a3)]) = true := rfl
end Nv
-- N44
namespace Nv
open PySem PySem.Spec PyProof.Rows L2
open Evl (Ex)
section
variable {M : Md} {F : Hp}
end
section
variable {X : Cx} {c : Cf} {e : Expr} {es : List Expr} {f : Ev → Rs (List OV)} {p pos : Pos}
end
end Nv
-- N45
namespace Nv
open PySem PySem.Spec PyProof.Rows L2
open Evl (Ex)
section
variable {X : Cx}
end
section
variable {X : Cx} {c : Cf} {e : Expr} {es : List Expr} {f : Ev → Rs (List OV)} {p pos : Pos}
end
section
variable {X : Cx} {c : Cf} {e : Expr} {es : List Expr} {f : Ev → Rs (List OV)} {p pos : Pos}
end
end Nv
-- N47
namespace Nv
open PySem PySem.Spec PyProof.Rows L2
open Evl (Ex)
section
variable {X : Cx} {c : Cf} {pos : Pos}
end
end Nv
-- N46
namespace Nv
open PySem PySem.Spec PyProof.Rows L2
open Evl (Ex)
section
variable {P : Program} {w : World} {K : Type} [DecidableEq K] {knd : KeyKind P w K} {A : Around} {E : Value → Shared → Prop} {s : Shared}
set_option maxHeartbeats 8000000 in
theorem call_ksetT {a : Addr} {items : Array Value} (l : List K) {Q : Value → Shared → Prop} (hh : A.handled = none) (hl : s.heap.IsTuple a items) (size : items.size = l.length)
    (hv : ∀ (i : Nat) (v : Value), items[i]? = some v → ∃ k : K, l[i]? = some k ∧ knd.is k v = true ∧ v.scannable = true) (few : l.length + 1 < scanBound)
    (go : ∀ (h' : Heap) (tk : Nat), MadeK knd l s h' → Q (.ref s.heap.objs.size) { s with heap := h', toks := tk }) :
    wpAny (model P w) A (call (.type "set") [.ref a]) Q E s := by
  obtain ⟨c, tl, hmro⟩ := F.called_set.mro
  have hmade := F.called_set.made; have hsub := F.called_set.sub
  refine wpAny_call (codeAny_of_tree ?_); show wpAny _ _ (callAny (.type "set") _) _ _ _
  refine wpAny_pure ⟨Code.quiet_builtin _ (by decide +kernel), codeAny_builtin PySem.F.entry_type_call ?_⟩; rw [Around.under_plain (weight_type_call_type "set" [.ref a] []) rfl]
  have h1 := F.called_set.notType; have h2 := F.called_set.canCreate
  have hct := F.typeCall_set_1 (.ref a)
  repeat (any_goals (first | assumption | wp_step))
  refine codeAny_mono (code_set_led1 (.ref a) (E := E) (Q₁ := fun obj s₁ => obj = .ref s.heap.objs.size ∧ s₁ = { s with heap := s.heap.push (emptyS w) }) ⟨rfl, rfl⟩) fun r s₁ hr => ?_
  cases r with
  | error e => exact hr
  | ok fl =>
    cases fl with
    | ret obj =>
      obtain ⟨rfl, rfl⟩ := hr
      have hS : (s.heap.push (emptyS w)).get? s.heap.objs.size = some (emptyS w) := Heap.get?_push_size _ rfl
      have hT : Shared.TypeIs { s with heap := s.heap.push (emptyS w) } (.ref s.heap.objs.size) "set" := ⟨_, hS, rfl⟩
      have hli := F.called_set.init.lookup; have hbi := F.called_set.init.bind (.ref s.heap.objs.size)
      repeat (any_goals (first | assumption | wp_step))
      refine codeAny_mono (codeAny_call_builtin (R := wants (fun r s₂ => r = .none ∧ ∃ h' tk, s₂ = { s with heap := h', toks := tk } ∧ MadeK knd l s h') E) F.called_set.init.plain F.entry_set_init (check_set_init_1 hT ?_)) fun r₂ s₂ hr₂ => ?_
      · have hlS : a < s.heap.objs.size := by obtain ⟨o, h, _⟩ := hl; exact Heap.lt_size h
        have hh3 : A.in1.in1.in1.handled = none := by simp [hh]
        have ne1 : a ≠ (s.heap.push (emptyS w)).objs.size := by rw [Heap.size_push]; exact Nat.ne_of_lt (Nat.lt_succ_of_lt hlS)
        have off : s.heap.objs.size ∉ [(s.heap.push (emptyS w)).objs.size, a] := by
          rw [Heap.size_push, List.mem_cons, List.mem_singleton]
          rintro (z | z)
          · exact Nat.ne_of_lt (Nat.lt_succ_self _) z
          · exact Nat.ne_of_gt hlS z
        have first_ : ∀ (I : Obj), KSet knd ((s.heap.push (emptyS w)).push I) s.heap.objs.size [] := fun I => kset_new (Heap.get?_push_of_some _ hS)
        have hneD : (Value.type "tuple" == Value.type "dict") = false := by decide
        obtain ⟨⟨ocls, odict, odata, oslots⟩, hol, hcl, nl, hdl⟩ := hl
        simp only at hcl hdl; subst hcl; subst hdl
        have hol' : (s.heap.push (emptyS w)).get? a = some { cls := .type "tuple", dict := odict, data := .seq items nl, slots := oslots } := Heap.get?_push_of_some _ hol
        have s1 := F.sub_tuple_set; have s2 := F.sub_tuple_frozenset
        have hl1 : (s.heap.push (emptyS w)).IsTuple a items := ⟨_, hol', rfl, nl, rfl⟩
        unfold Builtin.«set.__init__» noKeywords Builtin.Frozenset.updateFrom; generalize hPI : pyIter = PI
        wp_walk
        subst hPI
        refine wpAny_pyIter_tuple hl1 ?_; refine wpAny_bind (wpAny_runValue ?_)
        refine kset_upd ((Walks.tuple hh3 _ a ne1 items).toS) s.heap.objs.size off l size few hv (items.size - 0) 0 _ (by omega) (Nat.zero_le _) ⟨⟨_, Heap.get?_push_size _ rfl, rfl, rfl⟩, (hl1.push _)⟩ ⟨[], first_ _, GotK.zero l⟩ ?_
        intro s' ks hm r g
        obtain ⟨h', g2, d', tk', os'⟩ := s'
        obtain rfl : g2 = s.gens := hm.gens
        obtain rfl : d' = s.drawn := hm.drawn
        obtain rfl : os' = s.os := hm.os
        show wpAny _ _ _ _ _ _; refine wpAny_pure ?_; show wpAny _ _ (ret Value.none) _ _ _
        refine wpAny_pure ⟨rfl, h', tk', rfl, ks, r, size ▸ g, fun b o e => ?_⟩
        have hb := Heap.lt_size e
        refine hm.heap b o (fun z => ?_) (Heap.get?_push_of_some _ (Heap.get?_push_of_some _ e))
        rw [Heap.size_push, List.mem_cons, List.mem_singleton] at z
        rcases z with z | z
        · exact Nat.ne_of_lt hb z
        · exact Nat.ne_of_lt (Nat.lt_succ_of_lt hb) z
      · cases r₂ with
        | error e => exact hr₂
        | ok fl₂ =>
          cases fl₂ with
          | ret r =>
            obtain ⟨rfl, h', tk, rfl, made⟩ := hr₂
            repeat (any_goals (first | assumption | wp_step))
            exact go _ _ made
          | _ => exact hr₂.elim
    | _ => exact hr.elim
end
section
variable {X : Cx}
def rLS (K : PySem.W.Frag) : V → Hp → VK → Prop := fun x H Q => ∃ (a : Addr) (l : List (List Nat)), x = .ref a ∧ (SqL K H a (l.map fun t => V.str (SX.S t)) ∨ SqT K H a (l.map fun t => V.str (SX.S t))) ∧ l.length < 4000 ∧ Q (.int ((ded [] l).length : Nat)) H
theorem boot_lenT : bootBuiltins "len" = some (.builtin "len") := by decide +kernel
theorem pe_lset {a : Expr} {ta : TE} {p p2 q pos : Pos} (hc : X.calm = true) (hm : X.mg "len" = none) (hm2 : X.mg "set" = none) (ha : PE X a ta) (hg : Gl X "len" := by rfl) (hg2 : Gl X "set" := by rfl)
    (na : starEach [a] X.env = (false, eval a X.env) :: starEach [] X.env := by rfl) : PE X (.Call (.Name "len" p) [.Call (.Name "set" p2) [a] [] q] [] pos) (tUn (rLS X.K) ta) := by
  refine ⟨fun pins s σ H Q I h => ?_⟩
  refine Call_ (ld_blt I hg hm boot_lenT ?_); refine PyProof.Rows.callWith_builtin1 (PyProof.Rows.args_cons ?_ rfl) rfl rfl
  refine Call_ (ld_blt I hg2 hm2 boot_setT ?_)
  refine PyProof.Rows.callWith_type1 (PyProof.Rows.args_cons (thn (ha.run pins s σ H _ I h) fun v s1 ⟨x, H1, I1, r1, q1⟩ => PyProof.Rows.args_nil ?_) na) na rfl
  obtain ⟨l, xs, rfl, hq, hn, q1⟩ := q1
  cases r1
  have hh : X.A.handled = none := I1.ok.hd hc
  have fin : ∀ (h' : Heap) (tk : Nat), MadeK (PySem.strKind X.prog X.w) (xs.map SX.S) s1 h' → wpAny (model X.prog X.w) X.A (spliced (backTo pos (starEach [] X.env))) (fun vs s₂ => wpAny (model X.prog X.w) X.A (call (.builtin "len") (Value.ref s1.heap.objs.size :: vs)) (EP X pins σ Q) X.xe s₂) X.xe { s1 with heap := h', toks := tk } := fun h' tk ⟨ks, r2, got, keep⟩ => by
    refine PyProof.Rows.args_nil ?_
    rw [List.length_map] at got
    obtain ⟨m, rfl, nd, mem⟩ := got_ded got
    obtain ⟨o, es, ep, t, at_, exact_, dat, g, nd2, few, fit, ris, led⟩ := r2
    have hlen : es.size = (ded [] xs).length := by
      have q := g.len
      rw [Array.length_toList, List.length_map] at q
      have p : m.Perm (ded [] xs) := (List.perm_ext_iff_of_nodup nd (ded_nd xs [] List.nodup_nil)).mpr fun x => by rw [mem x, ded_mem]; simp
      rw [q, p.length_eq]
    refine call_len_set at_ exact_ dat fit (by have : es.size < 4096 := few; omega) ⟨.int ((ded [] xs).length : Nat), H1, (I1.kept keep).tok _, ⟨_, by rw [hlen]⟩, q1⟩
  rcases hq with hq | hq
  · obtain ⟨its, r, pl, hz⟩ := I1.list hq
    obtain ⟨g1, g2⟩ := strs_get r (P := X.prog) (w := X.w)
    exact call_kset (knd := PySem.strKind X.prog X.w) (xs.map SX.S) hh pl.isList (by rw [List.size_toArray]; exact g1) g2 (by rw [List.length_map]; show _ < 4096; omega) fin
  · obtain ⟨its, r, pl, hz⟩ := I1.tuple hq
    obtain ⟨g1, g2⟩ := strs_get r (P := X.prog) (w := X.w)
    exact call_ksetT (knd := PySem.strKind X.prog X.w) (xs.map SX.S) hh pl (by rw [List.size_toArray]; exact g1) g2 (by rw [List.length_map]; show _ < 4096; omega) fin
end
section
variable {X : Cx} {c : Cf}
def seqO : D → Option (List Str)
  | .lst l => strsO l
  | .tup l => strsO l
  | _ => none
def gLset (d : D) : Option AV := match seqO d with
  | some ks => if ks.length < 4000 then some (.dat (.int ((ded [] (ks.map TL.tl)).length : Nat))) else none
  | none => none
theorem map_tl (ks : List Str) : ks.map V.str = (ks.map TL.tl).map fun t => V.str (SX.S t) := by
  rw [List.map_map]
  exact List.map_congr_left fun x _ => by show V.str x = V.str (SX.S (TL.tl x)); rw [SX.S_tl]
theorem do_lset {a : Expr} {p p2 q pos : Pos} {f : Ev → Rs OV} (hM : c.M = ⟨X.K, X.mg⟩) (hc : X.calm = true) (hm : X.mg "len" = none) (hm2 : X.mg "set" = none) (ha : DB X c a f) (hg : Gl X "len" := by rfl) (hg2 : Gl X "set" := by rfl)
    (na : starEach [a] X.env = (false, eval a X.env) :: starEach [] X.env := by rfl) : DO X c (.Call (.Name "len" p) [.Call (.Name "set" p2) [a] [] q] [] pos) (op1 gLset f) := by
  refine PE.of (pe_lset hc hm hm2 ha hg hg2 na) fun σ H Q qq => ?_
  refine rd_op1 (r := rLS X.K) ?_ qq
  intro F H x d av Q sub r1 e h
  unfold gLset at e
  split at e
  · rename_i ks hk
    split at e
    · rename_i hh
      cases e
      unfold seqO at hk
      split at hk
      · obtain ⟨b, xs, rfl, h1, h2⟩ := r1_lst r1
        rw [strsO_eq hk] at h2
        obtain ⟨h3, h4⟩ := h2.strs
        subst h3
        exact ⟨b, ks.map TL.tl, rfl, .inl (by rw [← map_tl]; exact SqL.of h1), by rw [List.length_map]; exact hh, fin_dat sub h (rep_int.mpr rfl)⟩
      · obtain ⟨b, xs, rfl, h1, h2⟩ := r1_tup r1
        rw [strsO_eq hk] at h2
        obtain ⟨h3, h4⟩ := h2.strs
        subst h3
        refine ⟨b, ks.map TL.tl, rfl, .inr ?_, by rw [List.length_map]; exact hh, fin_dat sub h (rep_int.mpr rfl)⟩
        rw [← map_tl, hM] at *
        exact Evl.ex_t sub h1
      · cases hk
    · cases e
  · cases e
end
theorem gLset_S {l : List Tx} (h1 : l.length < 4000) : gLset (.tup (l.map tD)) = some (.dat (.int ((ded [] l).length : Nat))) ∧ gLset (.lst (l.map tD)) = some (.dat (.int ((ded [] l).length : Nat))) := by
  have e : (l.map SX.S).map TL.tl = l := by
    rw [List.map_map]
    conv => rhs; rw [← List.map_id l]
    exact List.map_congr_left fun x _ => rfl
  constructor <;>
  · show (match strsO (l.map tD) with
      | some ks => if ks.length < 4000 then some (AV.dat (.int ((ded [] (ks.map TL.tl)).length : Nat))) else none
      | none => none) = _
    rw [strsO_map]
    dsimp only
    rw [e, List.length_map, if_pos h1]
end Nv
-- N48
namespace Nv
open PySem PySem.Spec PyProof.Rows L2
open Evl (Ex)
section
variable {X : Cx}
end
section
variable {X : Cx} {c : Cf}
end
end Nv
-- N49
namespace Nv
open PySem PySem.Spec PyProof.Rows L2
open Evl (Ex)
section
variable {X : Cx} {c : Cf} {e : Expr} {apos cpos : Pos}
end
end Nv
-- N50
namespace Nv
open PySem PySem.Spec PyProof.Rows L2
open Evl (Ex)
section
variable {X : Cx} {c : Cf} {a b : Expr} {fa fb : Ev → Rs OV} {pos : Pos}
end
section
variable {X : Cx} {c : Cf} {e : Expr} {es : List Expr} {f : Ev → Rs (List OV)} {p pos : Pos}
end
end Nv
-- N51
namespace Nv
open PySem PySem.Spec PyProof.Rows L2
open Evl (Ex)
open PySem.W (alike dataLt rcLt_alike)
end Nv
-- N52
set_option maxHeartbeats 8000000
namespace PySem
namespace HandSPX
open Builtin Builtin.ObjectAttr
open Sem (wp)
section
variable {M : Model} {A : Around} {E : Value → Shared → Prop} {h : Heap} {g : Array GenState} {d : Drawn} {t : Nat} {os : OsState}
variable {nm q : Str} {C N : Addr} {bs bm bmB : List Value} {hdct : Bool} {sn : List Str} {sub : List Value} {ab : Bool} {col : Option Bool} {dd : Option Addr} {k0 k1 k2 k3 k5 : Option Value} {B newId initId : String}
end
section
variable {prog : Program} {w : World} {A : Around} {E : Value → Shared → Prop} {R : Result → Shared → Prop} {h : Heap} {g : Array GenState} {d : Drawn} {t : Nat} {os : OsState}
variable {nm q : Str} {C N : Addr} {bs bm bmB : List Value} {hdct : Bool} {sn : List Str} {sub : List Value} {ab : Bool} {col : Option Bool} {dd : Option Addr} {k0 k1 k2 k3 k5 : Option Value} {B newId initId : String}
end
end HandSPX
end PySem
-- N53
namespace Nv
open PySem PySem.Spec PyProof.Rows L2 NdefX
open Evl (Ex)
section
variable {X : Cx} {pins : List (Addr × Obj)} {σ : L2.St} {H1 : Hp} {Q : XK} {C fI : Addr} {fd : FuncData} {N ps : List Str} {t : TS} {ns : List Str} {k : Nat} {us : List Value} {vs : List V} {s1 : Shared}
end
section
variable {X : Cx} {e : Expr}
end
section
variable {X : Cx} {x : Str} {p pos : Pos} {k : Nat} {ns ks : List Str} {kws : List Keyword} {tk : TA}
end
section
variable {X : Cx} {c : Cf} {x : Str} {ns : List Str} {f : Ev → Rs (List OV)} {C : Addr} {σ : L2.St} {H : Hp} {Q : VK}
theorem PK.of {kws : List Keyword} {t t' : TA} (h : PK X kws t) (i : ∀ σ H Q, t' σ H Q → t σ H Q) : PK X kws t' := ⟨fun pos pins s σ H Q I q => h.run pos pins s σ H Q I (i σ H Q q)⟩
section
variable {p pos : Pos} {k k' : Nat} {ks : List Str} {kws : List Keyword} {e : Expr} {es : List Expr}
end
end
section
variable {P : Program} {w : World} {K : PySem.W.Frag} {mg : Str → Option Value} {base : Heap} {n f g y z qual : Str} {C fI c cc : Addr} {fd : FuncData} {params : Arguments} {body : List Stmt} {scope : Scope}
end
end Nv
-- N54
namespace Nv
open PySem PySem.Spec PyProof.Rows L2
open Evl (Ex)
/-- nothing is handled, as far as a frame's marks go -/
def calmA (A : Around) : Around := { A with handled := none }
/-- the body's context -/
def cxN (CX : CXT) (P : Program) (w : World) (K : PySem.W.Frag) (mg : Str → Option Value) (base : Heap) (N : List Str) (qual : Str) (scope : Scope) (f : Addr) (cd : Value) (A : Around) (outer : List Env) (s : Shared) (H : Hp) (E : XK) : Cx :=
  { cxOf CX P w K mg base N qual scope f cd A outer s H E with calm := false }
theorem inv_startN {CX : CXT} {P : Program} {w : World} {K : PySem.W.Frag} {mg : Str → Option Value} {base : Heap} {N ps : List Str} {qual : Str} {scope : Scope} {f : Addr} {cd : Value} {A : Around} {outer : List Env} {s s1 : Shared} {H : Hp} {E : XK} {us : List Value} {vs : List V}
    (S : FnScope N ps scope) (e0 : Env0 P w K mg base A outer s H) (hl : vs.length = ps.length) (r : Vals vs us)
    (x : InCallC s s.heap.objs.size (bindL (envOfC qual scope s.heap.objs.size f cd).kindOf (ps.zip us) fun _ => none) (cellsFrom (s.heap.objs.size + 1) scope.names []) (bindC (envOfC qual scope s.heap.objs.size f cd).kindOf (ps.zip us) fun _ => none) s1) :
    Inv (cxN CX P w K mg base N qual scope f cd A outer s H E) [] (L2.start N vs) H s1 := by
  have I : Inv (cxOf CX P w K mg base N qual scope f cd (calmA A) outer s H E) [] (L2.start N vs) H s1 := inv_start S rfl ⟨e0.frames, e0.mod, e0.bs, e0.bsz, e0.funs, e0.frf, e0.hok, e0.bare⟩ hl r x
  have o := I.ok
  exact ⟨⟨o.mod, o.kind, o.glob, o.blt, o.above, o.inj, o.has, o.cab, (fun z => Bool.noConfusion (show false = true from z)), Around.frames_deeper e0.frames, o.stk, o.exf, o.bs, o.bsz, o.noex, o.exfs, o.funs, o.frf⟩, I.os, I.bare, I.base, I.loc, I.cell, I.free, I.freeC, I.pin, I.hok, I.len⟩
open L2H (RoomH roomH_of)
/-- what such a def promises -/
structure FnN (P : Program) (w : World) (K : PySem.W.Frag) (mg : Str → Option Value) (base : Heap) (CX : CXT) (k : Nat) (f : Addr) (fd : FuncData) (ps : List Str) (sp : Sp) : Prop where
  len : ∀ vs H Q E, sp vs H Q E → vs.length = ps.length
  run : ∀ (A : Around) (outer : List Env) (s : Shared) (H : Hp) (args : Args) (us : List Value) (vs : List V) (Q : VK) (E : XK), RoomH k A → Env0 P w K mg base A outer s H → BindsTo s fd args (ps.zip us) → Vals vs us → sp vs H Q E →
    codeAny (model P w) A (.call (.ref f) args) (CR CX outer P w H s Q E) s
/-- such a def by its name -/
structure DefOkN (P : Program) (w : World) (K : PySem.W.Frag) (mg : Str → Option Value) (base : Heap) (k : Nat) (x : Str) (n : Nat) (g : List AV → FR) : Prop where
  ex : ∃ (f : Addr) (fd : FuncData) (ps : List Str), mg x = some (.ref f) ∧ PySem.W.keepIn K (.ref f) = true ∧ Binds K fd ps [] ∧ ps.length = n ∧ FnN P w K mg base (L2.CX P w) k f fd ps (spD ⟨K, mg⟩ n g)
theorem FnN.ok {P : Program} {w : World} {K : PySem.W.Frag} {mg : Str → Option Value} {base : Heap} {CX : CXT} {k : Nat} {f : Addr} {fd : FuncData} {ps : List Str} {sp : Sp} (F : FnN P w K mg base CX k f fd ps sp) : FnOk P w K mg base CX k f fd ps sp :=
  ⟨F.len, fun A outer s H args us vs Q E hr e0 hb r h => F.run A outer s H args us vs Q E ⟨hr.dp, hr.un⟩ e0 hb r h⟩
theorem DefOkN.ok {P : Program} {w : World} {K : PySem.W.Frag} {mg : Str → Option Value} {base : Heap} {k : Nat} {x : Str} {n : Nat} {g : List AV → FR} (D : DefOkN P w K mg base k x n g) : DefOk P w K mg base k x n g := by
  obtain ⟨f, fd, ps, h1, h2, h3, h4, F⟩ := D.ex
  exact ⟨f, fd, ps, h1, h2, h3, h4, F.ok⟩
section
variable {X : Cx} {CX : CXT} {c : Cf} {x : Str} {p pos q : Pos} {e : Expr} {es : List Expr} {k k' n : Nat} {g : List AV → FR} {f0 : Addr} {fd : FuncData} {ps : List Str} {sp : Sp} {E : L2.St → XK} {f : Ev → Rs (List OV)} {t : TA}
end
end Nv
-- N55
namespace Nv
open PySem PySem.Spec PyProof.Rows L2
open Evl (Ex)
section
variable {X : Cx} {CX : CXT} {k : Nat} {f : Addr} {fd : FuncData} {ps : List Str} {sp : Sp} {E : L2.St → XK}
end
/-- an own one's special method -/
structure SpOk (P : Program) (w : World) (K : PySem.W.Frag) (mg : Str → Option Value) (base : Heap) (k : Nat) (cn m : Str) (n : Nat) (g : List AV → FR) : Prop where
  ex : ∃ (C f : Addr) (fd : FuncData) (ps : List Str), mg cn = some (.ref C) ∧ PySem.W.findIn K (.ref C) m = some (some (.ref f)) ∧ PySem.W.isFn K (.ref f) = true ∧ Binds K fd ps [] ∧ ps.length = n ∧ FnOk P w K mg base (L2.CX P w) k f fd ps (spD ⟨K, mg⟩ n g)
def isC (cn : Str) : D → Bool
  | .ins n _ => n == cn
  | _ => false
section
variable {c : Cf} {σ : L2.St} {F H : Hp} {Γ : Ev} {r : Rs AV} {Q : VK}
end
section
variable {X : Cx} {CX : CXT} {k : Nat} {f C : Addr} {fd : FuncData} {ps : List Str} {sp : Sp} {E : L2.St → XK} {a b e : Expr} {ta tb : TE} {t : TA} {pos p : Pos}
end
section
variable {X : Cx} {c : Cf} {cn : Str} {a b e : Expr} {pos p : Pos} {k k' : Nat} {g : List AV → FR} {fa fb : Ev → Rs D}
end
section
variable {Γ : Ev} {cn : Str} {g : List AV → FR} {fa fb : Ev → Rs D} {d d1 d2 : D} {p1 p2 : D → Bool} {fin : Rs AV → Rs AV} {l : List (Str × D)} {z : Str} {ps : List (D × D)} {bb : Bool} {i : Int} {n : Str} {xl : List (Str × D)}
end
end Nv
-- N56
namespace Nv
open PySem PySem.Spec PyProof.Rows L2
open Evl (Ex)
section
variable {X : Cx}
end
section
variable {X : Cx} {c : Cf}
end
section
variable {X : Cx} {e : Expr} {te : TE} {p apos cpos pos : Pos}
end
section
variable {X : Cx} {c : Cf} {e : Expr} {es : List Expr} {f : Ev → Rs (List OV)} {p pos : Pos}
end
structure SpOkN (P : Program) (w : World) (K : PySem.W.Frag) (mg : Str → Option Value) (base : Heap) (k : Nat) (cn m : Str) (n : Nat) (g : List AV → FR) : Prop where
  ex : ∃ (C f : Addr) (fd : FuncData) (ps : List Str), mg cn = some (.ref C) ∧ PySem.W.findIn K (.ref C) m = some (some (.ref f)) ∧ PySem.W.isFn K (.ref f) = true ∧ Binds K fd ps [] ∧ ps.length = n ∧ FnN P w K mg base (L2.CX P w) k f fd ps (spD ⟨K, mg⟩ n g)
theorem SpOkN.ok {P : Program} {w : World} {K : PySem.W.Frag} {mg : Str → Option Value} {base : Heap} {k : Nat} {cn m : Str} {n : Nat} {g : List AV → FR} (D : SpOkN P w K mg base k cn m n g) : SpOk P w K mg base k cn m n g := by
  obtain ⟨C, f, fd, ps, h1, h2, h3, h4, h5, F⟩ := D.ex
  exact ⟨C, f, fd, ps, h1, h2, h3, h4, h5, F.ok⟩
section
variable {X : Cx} {c : Cf} {CX : CXT} {cn : Str} {k k' : Nat} {g : List AV → FR} {fa fb : Ev → Rs D} {f C : Addr} {fd : FuncData} {ps : List Str} {sp : Sp} {E : L2.St → XK} {a b : Expr} {ta tb : TE} {pos : Pos}
end
end Nv
-- N57
namespace Nv
open PySem PySem.Spec PyProof.Rows L2
open Evl (Ex)
section
variable {X : Cx} {c : Cf} {e : Expr} {es : List Expr} {pos p : Pos} {f : Ev → Rs (List OV)} {L : List Str}
end
end Nv
-- N58
namespace Nv
open PySem PySem.Spec PyProof.Rows L2
open Evl (Ex)
theorem get_push {α : Type} {l : List α} {x y : α} {i : Nat} (h : (l ++ [x])[i]? = some y) : l[i]? = some y ∨ (i = l.length ∧ y = x) := by
  by_cases z : i < l.length
  · rw [List.getElem?_append_left z] at h
    exact .inl h
  · rw [List.getElem?_append_right (by omega)] at h
    have e : i - l.length = 0 := by
      rcases Nat.lt_or_ge 0 (i - l.length) with q | q
      · rw [List.getElem?_eq_none (by rw [List.length_singleton]; omega)] at h; cases h
      · omega
    rw [e] at h
    cases h
    exact .inr ⟨by omega, rfl⟩
theorem get_pushR {α : Type} {l : List α} {x : α} : (l ++ [x])[l.length]? = some x := by
  rw [List.getElem?_append_right (Nat.le_refl _), Nat.sub_self]; rfl
section
variable {M : Md} {σ0 σ : L2.St} {F H : Hp} {Γ : Ev} {x : Addr} {o : O}
theorem Rel.push (r : Rel M σ0 F H σ Γ) (hx : F x = Option.none) (ho : ORep M F H x o) (no : ¬ Nv.own σ Γ x) : Rel M σ0 F H (σ ++ [some (.ref x)]) (Γ ++ [.own Option.none o]) := by
  refine ⟨r.sub, by rw [List.length_append, List.length_append, r.len]; rfl, fun i s g h1 h2 => ?_, fun i j t o1 t' o2 a h1 h2 h3 h4 => ?_⟩
  · rcases get_push h2 with h2 | ⟨e, hg⟩
    · rcases get_push h1 with h1 | ⟨e2, _⟩
      · exact r.slot i s g h1 h2
      · have := (List.getElem?_eq_some_iff.mp h2).1
        have := r.len
        omega
    · subst e
      rw [← r.len, get_pushR] at h1
      cases h1
      subst hg
      exact ⟨x, rfl, hx, ho, fun k hk => nomatch hk⟩
  · have c : ∀ {i : Nat} {t : Option Nat} {o' : O}, (Γ ++ [Slot.own Option.none o])[i]? = some (.own t o') → (σ ++ [some (V.ref x)])[i]? = some (some (.ref a)) → (Γ[i]? = some (.own t o') ∧ σ[i]? = some (some (.ref a))) ∨ (i = Γ.length ∧ a = x) := fun {i t o'} h1 h2 => by
      rcases get_push h1 with h1 | ⟨e, _⟩
      · rcases get_push h2 with h2 | ⟨e2, _⟩
        · exact .inl ⟨h1, h2⟩
        · have := (List.getElem?_eq_some_iff.mp h1).1
          have := r.len
          omega
      · subst e
        rw [← r.len, get_pushR] at h2
        cases h2
        exact .inr ⟨rfl, rfl⟩
    rcases c h1 h3 with ⟨a1, a2⟩ | ⟨a1, a2⟩ <;> rcases c h2 h4 with ⟨b1, b2⟩ | ⟨b1, b2⟩
    · exact r.sep i j _ _ _ _ a a1 b1 a2 b2
    · exact absurd ⟨i, t, o1, a1, b2 ▸ a2⟩ no
    · exact absurd ⟨j, t', o2, b1, a2 ▸ b2⟩ no
    · omega
end
section
variable {Γ Γ2 : Ev} {cn : Str} {n : Nat} {g : List AV → FR} {as : Ev → Rs (List OV)} {os : List OV} {al : List AV} {o : O} {t : Option Nat} {outs : Ev}
end
end Nv
-- N59
namespace Nv
open PySem PySem.Spec PyProof.Rows L2
open Evl (Ex)
mutual
/-- no dict within -/
def flat : D → Bool
  | .non => true
  | .bl _ => true
  | .int _ => true
  | .str _ => true
  | .tup l => flats l
  | .lst l => flats l
  | .fz _ => false
  | .dct _ => false
  | .dtt _ => false
  | .ins _ _ => false
  | .ty _ => true
  | .cls _ => true
  | .exn _ _ => false
  | .opq _ => true
def flats : List D → Bool
  | [] => true
  | d :: l => flat d && flats l
end
section
variable {M : Md} {F F' H H' : Hp}
end
def er (F : Hp) (d : Addr) : Hp := fun b => if b = d then none else F b
section
variable {Γ : Ev} {i : Nat} {t : Option Nat} {l : List (D × D)} {f : Ev → Rs AV}
variable {G G' : Ev} {t' : Option Nat} {o o' : O} {d : D} {s : Slot}
end
end Nv
-- N60
namespace Nv
open PySem PySem.Spec PyProof.Rows L2
open Evl (Ex)
section
variable {M : Md} {F : Hp}
end
section
variable {X : Cx} {c : Cf} {tg e : Expr}
end
section
variable {prog : Program} {w : World} {K : Type} [DecidableEq K] {knd : KeyKind prog w K} {A : Around} {E : Value → Shared → Prop} {s : Shared}
end
section
variable {X : Cx} {c : Cf} {e : Expr} {es : List Expr} {f : Ev → Rs (List OV)} {p pos : Pos}
end
end Nv
-- N61
namespace Nv
open PySem PySem.Spec PyProof.Rows L2
open Evl (Ex)
section
variable {prog : Program} {w : World} {K : Type} [DecidableEq K] {knd : HeapKind prog w K}
end
theorem RepT.drop {M : Md} {F : Hp} (k : List Key) : ∀ {l : List (D × D)} {xs : List (List Key × V)}, RepT M F l xs → RepT M F (ddrop l (.tup (k.map kD))) (dropK xs k)
  | [], _, h => by cases repT_nil.mp h; exact repT_nil.mpr rfl
  | p :: l, _, h => by
    obtain ⟨q, v, r, rfl, ⟨h1, h0⟩, h2, h3⟩ := repT_cons.mp h
    have ih := RepT.drop k h3
    unfold ddrop dropK at ih ⊢
    rw [List.filter_cons, List.filter_cons, h1, keyT_eq]
    by_cases e : q = k
    · rw [decide_eq_true e, if_neg (by decide), if_neg (by simpa using e)]; exact ih
    · rw [decide_eq_false e, if_pos (by decide), if_pos (by simpa using e)]
      exact repT_cons.mpr ⟨q, v, _, rfl, ⟨h1, h0⟩, h2, ih⟩
section
variable {X : Cx} {c : Cf} {e ex : Expr} {cpos apos : Pos}
end
end Nv
-- N62
namespace Nv
open PySem PySem.Spec PyProof.Rows L2
open Evl (Ex)
section
variable {P : Program} {w : World} {K : PySem.W.Frag} {d : Addr} {o : Obj} {es : Array DictEntry} {ep : Nat}
end
section
variable {X : Cx} {e : Expr} {td : TE} {apos cpos : Pos}
end
end Nv
-- N63
namespace L2
open PySem PySem.Spec PyProof.Rows
section
variable {X : Cx}
end
end L2
namespace Nv
open PySem PySem.Spec PyProof.Rows L2
open Evl (Ex)
def Kt (M : Md) (F : Hp) (acc : List (D × D)) (u : HO) : Prop := ∃ xs, u = .dT xs ∧ RepT M F acc xs
theorem Kt.mono {M : Md} {F F' : Hp} {acc : List (D × D)} {u : HO} (e : Ex F F') (h : Kt M F acc u) : Kt M F' acc u := by
  obtain ⟨xs, h1, h2⟩ := h
  exact ⟨xs, h1, h2.mono e⟩
section
variable {Γ : Ev} {vs : List Nat} {gd : TgF} {t : Ev → Rs Bool} {d1 d2 : Ev → Rs D} {srcp : Ev → Rs (List D × List Nat)} {p : List D × List Nat}
end
end Nv
-- N64
namespace Nv
open PySem PySem.Spec PyProof.Rows L2
section
variable {Γ : Ev} {f : Ev → Rs OV} {fs : Ev → Rs (List OV)} {o : OV} {os : List OV} {i : Nat} {l : List (D × D)} {a b : Bool}
variable {fk fv : Ev → Rs D} {y : D}
end
end Nv
-- N65
namespace L2
open PySem PySem.Spec PyProof.Rows
def MaskOk5 (m : Nat) : Prop := m = 7 ∨ m = 15 ∨ m = 31 ∨ m = 63 ∨ m = 127
end L2
-- N66
namespace Nv
open PySem PySem.Spec PyProof.Rows L2
section
variable {P : Program} {w : World} {K : Type} [DecidableEq K] {knd : KeyKind P w K} {A : Around} {E : Value → Shared → Prop} {s : Shared} {a : Addr}
/-- KSet, and the mask is one of those that are known -/
def KM (knd : KeyKind P w K) (h : Heap) (a : Addr) (ks : List K) (m : Nat) : Prop :=
  ∃ o es ep t, h.get? a = some o ∧ o.ExactSet ∧ o.data = .set es ep t ∧ KsOf knd es.toList ks ∧ ks.Nodup ∧ es.size < scanBound ∧ t.fits es.size = true ∧ Ris t.place.toList ∧ (w.params.followText "set-order" = true ∨ t.led = true) ∧ MaskOk5 t.mask ∧ m ≤ t.mask ∧ t.dummies = #[]
theorem KM.ks {h : Heap} {ks : List K} {m : Nat} (r : KM knd h a ks m) : KSet knd h a ks := by
  obtain ⟨o, es, ep, t, h1, h2, h3, h4, h5, h6, h7, h8, h9, _⟩ := r
  exact ⟨o, es, ep, t, h1, h2, h3, h4, h5, h6, h7, h8, h9⟩
end
end Nv
-- N67
namespace Nv
open PySem PySem.Spec PyProof.Rows L2
section
variable {P : Program} {w : World} {K : Type} [DecidableEq K] {knd : KeyKind P w K} {A : Around} {E : Value → Shared → Prop} {s : Shared} {a r : Addr}
end
end Nv
-- N68
namespace Nv
open PySem PySem.Spec PyProof.Rows L2
section
variable {P : Program} {w : World} {K : Type} [DecidableEq K] {knd : KeyKind P w K} {A : Around} {E : Value → Shared → Prop} {s : Shared}
end
end Nv
-- N69
namespace Nv
open PySem PySem.Spec PyProof.Rows L2
open Evl (Ex)
section
variable {X : Cx}
end
section
variable {X : Cx} {c : Cf}
end
end Nv
-- N70
namespace Nv
open PySem PySem.Spec PyProof.Rows L2
open Evl (Ex)
section
variable {Γ : Ev} {dd : List D} {f : Ev → Rs (List OV)} {os : List OV}
end
end Nv
-- N71
namespace Nv
open PySem PySem.Spec PyProof.Rows L2
open Evl (Ex)
end Nv
-- N72
namespace Nv
open PySem PySem.Spec PyProof.Rows L2
open Evl (Ex)
end Nv
-- N75
namespace Nv
open PySem PySem.Spec PyProof.Rows L2
open He (ga ma frG asG)
abbrev Fr := PySem.W.Frag
def fdAt (K : Fr) (f : Addr) : Option FuncData := match K.lookup f with
  | some ⟨_, _, .func fd, _⟩ => some fd
  | _ => none
abbrev FV : Type := Option (Str × Str × Arguments × FuncBody × Scope × Addr × Addr)
def fvAt (K : Fr) (f : Addr) : FV := match fdAt K f with
  | some fd => some (fd.name, fd.qualname, fd.params, fd.body, fd.scope, fd.globals, fd.builtins)
  | none => none
def fvOf (name qual : Str) (st : Stmt) : FV := some (name, qual, defArgs st, .stmts (defBody st), defScope st, mainGlobals, builtinsNs)
theorem fd_lk {K : Fr} {f : Addr} {fd : FuncData} (h : fdAt K f = some fd) : ∃ oc od sl, K.lookup f = some ⟨oc, od, .func fd, sl⟩ := by
  unfold fdAt at h
  split at h
  · rename_i a b c d e
    cases h
    exact ⟨_, _, _, e⟩
  · cases h
theorem fv_ok {K : Fr} {f : Addr} {name qual : Str} {st : Stmt} (h : fvAt K f = fvOf name qual st) :
    ∃ cl dV kV doc pm an cdv ct, fdAt K f = some (PySem.W.fnX name qual (defArgs st) (defBody st) (defScope st) cl dV kV doc pm an cdv ct) := by
  unfold fvAt fvOf at h
  split at h
  · rename_i fd e
    obtain ⟨n1, n2, n3, n4, n5, n6, n7, n8, n9, n10, n11, n12, n13, n14, n15⟩ := fd
    simp only [Option.some.injEq, Prod.mk.injEq] at h
    obtain ⟨h1, h2, h3, h4, h5, h6, h7⟩ := h
    subst h1 h2 h3 h4 h5 h6 h7
    exact ⟨n7, n8, n9, n10, n11, n12, n13, n14, e⟩
  · cases h
/-- a def without defaults -/
def fnB (K : Fr) (f : Addr) (q : Str) : Bool := match fdAt K f with
  | some fd => (match fd.closure, fd.defaults with
    | [], .none => PySem.W.codeIn K fd.code q
    | _, _ => false)
  | none => false
theorem fn_get {K : Fr} {f : Addr} {name qual : Str} {st : Stmt} (h : fvAt K f = fvOf name qual st) (b : fnB K f qual = true) :
    ∃ (oc : Value) (od : Option Addr) (sl : Array (Option Value)) (kV dc pm : Value) (an : Option Addr) (cd ct : Value), K.lookup f = some ⟨oc, od, .func (PySem.W.fnOf name qual (defArgs st) (defBody st) (defScope st) .none kV dc pm an cd ct), sl⟩ ∧ PySem.W.codeIn K cd qual = true := by
  obtain ⟨cl, dV, kV, doc, pm, an, cdv, ct, e⟩ := fv_ok h
  obtain ⟨oc, od, sl, lk⟩ := fd_lk e
  unfold fnB at b
  rw [e] at b
  dsimp only at b
  split at b
  · exact ⟨oc, od, sl, kV, doc, pm, an, cdv, ct, lk, b⟩
  · cases b
def fnE (K : Fr) (f : Addr) (C : Addr) (q file : Str) : Bool := match fdAt K f with
  | some fd => (match fd.closure, fd.defaults, fd.code with
    | [(n, cc)], .none, .ref c => decide (n = "__class__") && PySem.W.codeIn K (.ref c) q && (match K.lookup cc, K.lookup c with
      | some ⟨_, _, .cell (some (.ref D)), _⟩, some ⟨_, _, .fields vs, _⟩ => decide (D = C) && (match (vs[2]? : Option Value) with
        | some (.str g _) => file == g
        | _ => false)
      | _, _ => false)
    | _, _, _ => false)
  | none => false
theorem fn_getE {K : Fr} {f C : Addr} {name qual file : Str} {st : Stmt} (h : fvAt K f = fvOf name qual st) (b : fnE K f C qual file = true) :
    ∃ (oc : Value) (od : Option Addr) (sl : Array (Option Value)) (cc c : Addr) (kV dc pm : Value) (an : Option Addr) (ct : Value),
      K.lookup f = some ⟨oc, od, .func (PySem.W.fnX name qual (defArgs st) (defBody st) (defScope st) [("__class__", cc)] .none kV dc pm an (.ref c) ct), sl⟩ ∧ PySem.W.codeIn K (.ref c) qual = true ∧
      (∃ (x : Value) (y : Option Addr) (z : Array (Option Value)), K.lookup cc = some ⟨x, y, .cell (some (.ref C)), z⟩) ∧
      ∃ (cl : Value) (cdd : Option Addr) (vs : Array Value) (ccs : Array (Option Value)), K.lookup c = some ⟨cl, cdd, .fields vs, ccs⟩ ∧ ∃ g tf, vs[2]? = some (.str g tf) ∧ (file == g) = true := by
  obtain ⟨cl, dV, kV, doc, pm, an, cdv, ct, e⟩ := fv_ok h
  obtain ⟨oc, od, sl, lk⟩ := fd_lk e
  unfold fnE at b
  rw [e] at b
  dsimp only at b
  split at b
  · rename_i n cc c
    rw [Bool.and_eq_true, Bool.and_eq_true] at b
    obtain ⟨⟨b1, b2⟩, b3⟩ := b
    have b1 := of_decide_eq_true b1
    subst b1
    split at b3
    · rename_i x1 x2 D x3 y1 y2 vs y3 hcc hc
      rw [Bool.and_eq_true] at b3
      obtain ⟨b4, b5⟩ := b3
      have b4 := of_decide_eq_true b4
      subst b4
      split at b5
      · rename_i g t hg
        refine ⟨oc, od, sl, cc, c, kV, doc, pm, an, ct, ?_, b2, ⟨_, _, _, hcc⟩, _, _, _, _, hc, g, t, hg, b5⟩
        exact lk
      · cases b5
    · cases b3
  · cases b
/-- an error's class -/
def exB (K : Fr) (C : Addr) : Bool := match K.lookup C with
  | some ⟨.type "type", _, .cls cd, sl⟩ => (match cd.mro, sl.toList with
    | .ref C' :: bm, [_, _, _, _, some (.builtin n), _] => C' == C && n == "ValueError.__new__" && !cd.hasDel && cd.hasDict && PySem.HandSPX.refsVE bm
    | _, _ => false)
  | _ => false
theorem ex_get {K : Fr} {C : Addr} (q : exB K C = true) : ∃ nm qn N bs bm sn sub ab col dd k0 k1 k2 k3 k5, K.lookup C = some (excClassObj nm qn C N bs bm true sn sub ab col dd k0 k1 k2 k3 k5 "ValueError.__new__") ∧ PySem.HandSPX.refsVE bm = true := by
  unfold exB at q
  split at q
  · rename_i dd cd sl ho
    split at q
    · rename_i C' bm k0 k1 k2 k3 n k5 hm hs
      simp only [Bool.and_eq_true, beq_iff_eq, Bool.not_eq_true'] at q
      obtain ⟨⟨⟨⟨rfl, rfl⟩, hdel⟩, hd⟩, ht⟩ := q
      obtain ⟨nm, bs, mro, ns, qn, hdct, sn, sub, ab, col, del⟩ := cd
      dsimp only at hm hdel hd
      subst hm hdel hd
      have hsl : sl = #[k0, k1, k2, k3, some (.builtin "ValueError.__new__"), k5] := by
        obtain ⟨l⟩ := sl
        simp only at hs
        rw [hs]
      subst hsl
      exact ⟨nm, qn, ns, bs, bm, sn, sub, ab, col, dd, k0, k1, k2, k3, k5, ho, ht⟩
    · cases q
  · cases q
def clB (K : Fr) (C : Addr) : Bool := (PySem.W.clsIn K C).isSome
theorem cl_get {K : Fr} {C : Addr} (q : clB K C = true) : ∃ cd, PySem.W.clsIn K C = some cd := Option.isSome_iff_exists.mp q
/-- a name of the module that stands for an int, a text -/
def intB (K : Fr) (x : Str) (i : Int) : Bool := match PySem.W.nsIn K mainGlobals x with
  | some (some (.int j _)) => decide (j = i)
  | _ => false
theorem int_get {K : Fr} {x : Str} {i : Int} (q : intB K x i = true) : ∃ tk, PySem.W.nsIn K mainGlobals x = some (some (.int i tk)) := by
  unfold intB at q
  split at q
  · rename_i j t e
    rw [of_decide_eq_true q] at e
    exact ⟨t, e⟩
  · cases q
def vrs (g : Addr → Option Obj) (a : Addr) : List Addr := match g a with
  | some ⟨_, _, .dict es _, _⟩ => es.toList.flatMap fun e => He.refV e.val
  | _ => []
def prt (g : Addr → Option Obj) (a : Addr) : List Addr := match g a with
  | some ⟨_, _, .func fd, _⟩ => He.refV fd.code ++ (He.refV fd.defaults ++ fd.closure.map (·.2))
  | some ⟨_, _, .cls cd, _⟩ => [cd.ns]
  | _ => []
/-- what the module's names reach -/
def asM (g : Addr → Option Obj) : List Addr :=
  (fun L1 : List Addr => (fun L2 : List Addr => (fun L3 : List Addr => mainGlobals :: cStatics :: (L1 ++ (L2 ++ (L3 ++ L3.flatMap (prt g))))) (L2.flatMap (vrs g))) (L1.flatMap (prt g))) (vrs g mainGlobals)
abbrev AlH : Type := Bool × List FV
/-- the addresses from n on, of those below m that are named -/
def hkF (as : (Addr → Option Obj) → List Addr) (fa : Fr → List Bool) (fn : Fr → List FV) (val : List FV) : PySem.W.Hook where
  α := AlH
  obs := fun s => ((fa (frG s.heap.get? (as s.heap.get?))).all id, fn (frG s.heap.get? (as s.heap.get?)))
  val := fun _ => (true, val)
  says := fun _ h => ∃ K : Fr, K.In h ∧ (fa K).all id = true ∧ fn K = val
  of := fun _ _ e => ⟨_, He.frG_in, congrArg Prod.fst e, congrArg Prod.snd e⟩
  keeps := fun _ _ _ ⟨K, hK, c⟩ k => ⟨K, PySem.W.Frag.In.keeps hK k, c⟩
def obF (as : (Addr → Option Obj) → List Addr) (fa : Fr → List Bool) (fn : Fr → List FV) (s : PySem.W.SharedT) : AlH :=
  (fun K : Fr => ((fa K).all id, fn K)) (frG (HandSHeadRun.getT s) (as (HandSHeadRun.getT s)))
theorem obF_eq {as : (Addr → Option Obj) → List Addr} {fa : Fr → List Bool} {fn : Fr → List FV} {val : List FV} (s : PySem.W.SharedT) : obF as fa fn s = (hkF as fa fn val).obs s.abs := by
  have e : HandSHeadRun.getT s = s.abs.heap.get? := funext (HandSHeadRun.getT_eq s)
  unfold obF
  rw [e]
  rfl
theorem fact_at {l : List Bool} (h : l.all id = true) (i : Nat) {b : Bool} (e : l[i]? = some b) : b = true := List.all_eq_true.mp h b (List.mem_of_getElem? e)
theorem fn_at {l m : List FV} (h : l = m) (i : Nat) {a b : FV} (e1 : l[i]? = some a) (e2 : m[i]? = some b) : a = b := by
  rw [h, e2] at e1
  exact (Option.some.inj e1).symm
/-- the goal that head_any leaves -/
theorem end_ofE {l : PySem.W.OpenLaw} {q : Program} {loose : List Str} {XP : (Str → Option Value) → Heap → Prop} {YP : World → Heap → Prop} {d : DefRec} {lev : Nat} {f : List AV → FR}
    (ht : ∀ ns : List Int, ns.length ≤ 63 → ∃ outs, f [.dat (.fz (ns.map D.int))] = .ok (.dat (.bl true)) outs) (hn : l.most = some 63) (hdf : d.params.defaults = []) (hd : d.name = "law") (hlev : decide (lev < 30) = true)
    (F : ∀ (w : World) (mg : Str → Option Value) (fa : Addr) (h : Heap), YP w h → h.Ns mainGlobals mg → mg "law" = some (.ref fa) →
      ∃ K : Fr, K.In h ∧ ∃ fd : FuncData, (∀ (s : Shared) (u : Value), BindsTo s fd ⟨[u], []⟩ [("script", u)]) ∧ ∀ base : Heap, K.In base → base.Ns mainGlobals mg → FnOk l.prog w K mg base (L2.CX l.prog w) lev fa fd ["script"] (spD ⟨K, mg⟩ 1 f)) :
    PySem.W.WalkO q loose XP YP l.row.toRowW d [] (fun f vs => PySem.call f vs) := by
  have hl : lev < 30 := of_decide_eq_true hlev
  refine Att.attach_call hn hdf fun w s₀ s₁ mg mb fa o pm cd doc a vs ns G Y ho hd2 hcd hmg hobj hints hlen hg => ?_
  rw [hd] at hmg
  obtain ⟨K, KX, fd, hb, hF⟩ := F w mg fa _ Y G.T.g hmg
  refine law_call (sp := spLaw K) (k := 30) (CX := L2.CX l.prog w) KX G.T.g G.T.b G.T.builtins G.T.nolimit hg hobj hints (Nat.le_trans hlen (by decide)) ⟨rfl, by decide, by decide⟩ (fun base x y => ((hF base x y).imp (law_imp ht)).mono (by omega)) hb (fun H hO hS => ⟨a, ns, rfl, hS, hlen, fun _ => rfl⟩) fun H e s' z => ?_
  obtain ⟨_, _, _, _, _, _, _, _, _, _, _, _, z⟩ := z
  exact z
end Nv
-- N76
namespace L2
open PySem PySem.Spec PyProof.Rows
structure FnOkG (P : Program) (w : World) (K : PySem.W.Frag) (mg : Str → Option Value) (base : Heap) (CX : CXT) (k : Nat) (f : Addr) (fd : FuncData) (ps : List Str) (sp : Sp) : Prop where
  len : ∀ vs H Q E, sp vs H Q E → vs.length = ps.length
  run : ∀ (A : Around) (outer : List Env) (s : Shared) (H : Hp) (args : Args) (us : List Value) (vs : List V) (Q : VK) (E : XK), A.guards = some [] → Room k A → Env0 P w K mg base A outer s H → BindsTo s fd args (ps.zip us) → Vals vs us → sp vs H Q E →
    codeAny (model P w) A (.call (.ref f) args) (CR CX outer P w H s Q E) s
theorem FnOkG.mono {P : Program} {w : World} {K : PySem.W.Frag} {mg : Str → Option Value} {base : Heap} {CX : CXT} {j k : Nat} {f : Addr} {fd : FuncData} {ps : List Str} {sp : Sp} (F : FnOkG P w K mg base CX j f fd ps sp) (h : j ≤ k) :
    FnOkG P w K mg base CX k f fd ps sp := ⟨F.len, fun A outer s H args us vs Q E hg hr => F.run A outer s H args us vs Q E hg (hr.mono h)⟩
theorem FnOkG.imp {P : Program} {w : World} {K : PySem.W.Frag} {mg : Str → Option Value} {base : Heap} {CX : CXT} {k : Nat} {f : Addr} {fd : FuncData} {ps : List Str} {sp sp' : Sp} (F : FnOkG P w K mg base CX k f fd ps sp)
    (h : ∀ vs H Q E, sp' vs H Q E → sp vs H Q E) : FnOkG P w K mg base CX k f fd ps sp' :=
  ⟨fun vs H Q E q => F.len vs H Q E (h _ _ _ _ q), fun A outer s H args us vs Q E hg hr he hb hv hs => F.run A outer s H args us vs Q E hg hr he hb hv (h _ _ _ _ hs)⟩
section
variable {P : Program} {w : World} {K : PySem.W.Frag} {mg : Str → Option Value} {base : Heap}
end
end L2
namespace Nv
open PySem PySem.Spec PyProof.Rows L2
end Nv
-- N77
namespace Nv
open PySem PySem.Spec PyProof.Rows L2
open Evl (Ex)
section
variable {X : Cx} {pins : List (Addr × Obj)} {σ : L2.St} {H : Hp} {s : Shared} {M : Md}
end
section
variable {X : Cx} {c : Cf} {e : Expr} {es : List Expr} {p pos : Pos} {f : Ev → Rs (List OV)}
end
end Nv
-- N78
namespace L2
open PySem PySem.Spec PyProof.Rows
section
variable {M : Model} {A : Around} {E : Value → Shared → Prop} {s₀ s : Shared} {m cm : Str → Option Value} {env : Env}
end
section
variable {M : Model} {A : Around} {E : Value → Shared → Prop} {s : Shared}
end
section
variable {P : Program} {w : World} {K : PySem.W.Frag} {mg : Str → Option Value} {base : Heap}
end
end L2
namespace Nv
open PySem PySem.Spec PyProof.Rows L2
theorem PET.imp {X : Cx} {e : Expr} {t t' : TE} (h : PET X e t) (i : ∀ σ H Q, t' σ H Q → t σ H Q) : PET X e t' := fun pins s σ H Q h0 I q => h pins s σ H Q h0 I (i σ H Q q)
theorem PSsT.imp {X : Cx} {s : List Stmt} {t t' : TS} (h : PSsT X s t) (i : ∀ De σ H, t' De σ H → t De σ H) : PSsT X s t' := fun pins st σ H De h0 I q => h pins st σ H De h0 I (i De σ H q)
theorem PST.imp {X : Cx} {s : Stmt} {t t' : TS} (h : PST X s t) (i : ∀ De σ H, t' De σ H → t De σ H) : PST X s t' := fun pins st σ H De h0 I q => h pins st σ H De h0 I (i De σ H q)
section
variable {X : Cx} {c : Cf} {s : Stmt} {ss : List Stmt}
end
end Nv
-- N79
namespace Nv
open PySem PySem.Spec PyProof.Rows L2
open CwR
section
variable {X : Cx} {c : Cf} {o e b : Expr} {pos apos : Pos} {y z : Str} {j k : Nat} {c0 c1 : Pos}
end
end Nv
-- N80
namespace Nv
open PySem PySem.Spec PyProof.Rows L2
open Evl (Ex)
def strO (r : Rs AV) : Rs AV := match r with
  | .ok (.dat (.str z)) Γ => .ok (.dat (.str z)) Γ
  | .ex n l Γ => .ex n l Γ
  | _ => .bad
section
variable {c : Cf} {σ : L2.St} {F H : Hp} {Γ : Ev} {r : Rs AV} {Q : VK}
theorem Po.strO (h : Po c (vrO c.M) σ F H Γ (strO r) Q) : Po c (vrO c.M) σ F H Γ r fun v H' => ∃ z, v = .str z ∧ Q v H' := by
  cases r with
  | bad => exact h
  | ex n l Γ' => exact h
  | ok av Γ' =>
    cases av with
    | own o => exact h.elim
    | dat d =>
      cases d with
      | str z =>
        intro F' H' v r1 e1 v1
        exact ⟨z, (rep_str (M := c.M) (H := F')).mp v1 |>.1, h F' H' v r1 e1 v1⟩
      | _ => exact h.elim
end
section
variable {X : Cx} {CX : CXT} {k : Nat} {f C : Addr} {fd : FuncData} {ps : List Str} {sp : Sp} {E : L2.St → XK} {a b e : Expr} {ta tb : TE} {t : TA} {pos p : Pos}
end
/-- str(x), x an instance of the class cn -/
def strC (cn : Str) (g : List AV → FR) (fa : Ev → Rs D) : Ev → Rs AV := fun Γ => (fa Γ).bind fun d1 Γ => if isC cn d1 = true then strO (callR g [.dat d1] Γ) else .bad
section
variable {X : Cx} {c : Cf} {cn x : Str} {k k' : Nat} {g : List AV → FR} {f : Ev → Rs (List OV)} {fa fb : Ev → Rs D} {a b e o : Expr} {es : List Expr} {p pos apos : Pos} {f1 f2 : Ev → Rs OV}
end
end Nv
-- N81
namespace Nv
open PySem PySem.Spec PyProof.Rows L2
open PySem.W (kun_draw kun_collect)
open Evl (Ex)
section
variable {prog : Program} {w : World} {A : Around} {E : Value → Shared → Prop} {s : Shared}
end
/-- x, *y = e -/
def starS (i j : Nat) (f : Ev → Rs D) : Ev → Out := fun Γ => (f Γ).out fun d Γ => match d with
  | .lst (x :: r) => optS ((setG Γ i (.dat x)).bind fun Γ => setG Γ j (.own (.lst r)))
  | _ => .bad
section
variable {X : Cx} {c : Cf} {e : Expr} {pos : Pos}
end
end Nv
-- N82
namespace Nv
open PySem PySem.Spec PyProof.Rows L2 ClX
open Evl (Ex)
section
variable {X : Cx} {CX : CXT} {k i : Nat} {f C g p : Addr} {mc : Value} {fd : FuncData} {ps : List Str} {sp : Sp} {E : L2.St → XK} {x m : Str} {e o : Expr} {es : List Expr} {ta : TE} {t : TA} {pos pp apos : Pos} {pl : Sem Bool}
end
/-- the argument list with one more data ahead -/
def clsA (cn : Str) (f : Ev → Rs (List OV)) : Ev → Rs (List OV) := fun Γ => (f Γ).bind fun os Γ => .ok (.dat (.cls cn) :: os) Γ
def cmO (cn : Str) (n : Nat) (g : List AV → FR) (f : Ev → Rs (List OV)) : Ev → Rs AV := callO n g (clsA cn f)
def makeLO (i : Nat) (cn : Str) (n : Nat) (g : List AV → FR) (f : Ev → Rs (List OV)) : Ev → Rs AV := fun Γ => match Γ[i]? with
  | some (.dat (.cls m)) => if m = cn then makeO cn n g f Γ else .bad
  | _ => .bad
section
variable {X : Cx} {c : Cf} {x m cn : Str} {p pos apos : Pos} {e o : Expr} {es : List Expr} {k k' n i : Nat} {g : List AV → FR} {f : Ev → Rs (List OV)} {fo : Ev → Rs OV}
end
end Nv
-- N83
namespace Nv
open PySem PySem.Spec PyProof.Rows L2
open Evl (Ex)
section
variable {M : Model} {A : Around} {E : Value → Shared → Prop} {s : Shared} {env : Env}
end
section
variable {X : Cx} {c : Cf} {elts : List Expr} {kk : Nat} {tpos p pos kpos cpos : Pos} {pins : List (Addr × Obj)} {σ : L2.St} {H : Hp} {s : Shared} {R : It → Hp → Prop} {G : Hp → Prop} {xs : List V} {tn : Nat → Heap → Prop} {o : Obj} {h' : Heap} {k0 : Int} {e : Expr} {ta : TA}
/-- enumerate(e, start=n) -/
def enIK (n : Nat) (f : Ev → Rs (List OV)) : Ev → Rs (List D × List Nat) := fun Γ => (f Γ).bind fun os Γ => match os with
  | [o] => (match itemsOV Γ o with
    | some p => .ok (enumD n p.1, p.2) Γ
    | none => .bad)
  | _ => .bad
end
end Nv
-- N84
namespace Nv
open PySem PySem.Spec PyProof.Rows L2
section
variable {Γ : Ev} {cn n : Str} {g : List AV → FR} {fa : Ev → Rs D} {f : Ev → Rs (List OV)} {l : List (Str × D)} {xl : List (Str × D)} {z : Str} {i j k : Nat} {os : List OV} {x : D} {r : List D}
def kStrC (cn : Str) (g : List AV → FR) (d1 : D) (Γ : Ev) : Rs AV := if isC cn d1 = true then strO (callR g [.dat d1] Γ) else .bad
theorem kStrC_ap : kStrC cn g (.ins cn l) Γ = strO (callR g [.dat (.ins cn l)] Γ) := by
  unfold kStrC isC
  rw [if_pos (by simp)]
theorem strC_ap : strC cn g fa Γ = (fa Γ).bind (kStrC cn g) := rfl
theorem strO_str : strO (.ok (.dat (.str z)) Γ) = .ok (.dat (.str z)) Γ := rfl
theorem strO_ex : strO (.ex n xl Γ) = .ex n xl Γ := rfl
def kML (cn : Str) (n : Nat) (g : List AV → FR) (f : Ev → Rs (List OV)) (Γ : Ev) : Option Slot → Rs AV
  | some (.dat (.cls m)) => if m = cn then makeO cn n g f Γ else .bad
  | _ => .bad
theorem makeLO_ap : makeLO i cn k g f Γ = kML cn k g f Γ Γ[i]? := by
  unfold makeLO kML
  rfl
theorem kML_ap : kML cn k g f Γ (some (.dat (.cls cn))) = makeO cn k g f Γ := by
  unfold kML
  dsimp only
  rw [if_pos rfl]
def kCls (cn : Str) (os : List OV) (Γ : Ev) : Rs (List OV) := .ok (.dat (.cls cn) :: os) Γ
theorem kCls_ap : kCls cn os Γ = .ok (.dat (.cls cn) :: os) Γ := rfl
theorem clsA_ap : clsA cn f Γ = (f Γ).bind (kCls cn) := rfl
theorem cmO_ap : cmO cn k g f Γ = callO k g (clsA cn f) Γ := rfl
def kStarS (i j : Nat) (d : D) (Γ : Ev) : Out := match d with
  | .lst (x :: r) => optS ((setG Γ i (.dat x)).bind fun Γ => setG Γ j (.own (.lst r)))
  | _ => .bad
theorem kStarS_ap : kStarS i j (.lst (x :: r)) Γ = optS ((setG Γ i (.dat x)).bind fun Γ => setG Γ j (.own (.lst r))) := rfl
theorem starS_ap {f : Ev → Rs D} : starS i j f Γ = (f Γ).out (kStarS i j) := rfl
def kEnIK (k : Nat) (os : List OV) (Γ : Ev) : Rs (List D × List Nat) := (match os with | [o] => (match itemsOV Γ o with | some p => .ok (enumD k p.1, p.2) Γ | none => .bad) | _ => .bad)
theorem kEnIK_ap : kEnIK k os Γ = (match os with | [o] => (match itemsOV Γ o with | some p => .ok (enumD k p.1, p.2) Γ | none => .bad) | _ => .bad) := rfl
theorem enIK_ap : enIK k f Γ = (f Γ).bind (kEnIK k) := rfl
end
end Nv
-- N73
namespace Nv
open PySem PySem.Spec PyProof.Rows L2
open Evl (Ex)
open RZ
section
variable {X : Cx} {c : Cf}
end
section
variable {X : Cx} {c : Cf}
end
section
variable {Γ : Ev} {f : Ev → Rs (List OV)} {o p : OV} {l m : List D} {i : Nat}
end
end Nv
-- N74
namespace Nv
open PySem PySem.Spec PyProof.Rows L2
open Evl (Ex)
section
variable {X : Cx} {c : Cf}
end
section
variable {Γ : Ev} {fa fb : Ev → Rs D} {d e : D} {i j : Int}
end
end Nv
-- N86
namespace Nv
open PySem PySem.Spec PyProof.Rows L2
open Evl (Ex)
section
variable {P : Program} {w : World} {K : Type} [DecidableEq K] {knd : KeyKind P w K} {A : Around} {E : Value → Shared → Prop} {s : Shared}
end
end Nv
-- N87
namespace Nv
open PySem PySem.Spec PyProof.Rows L2
open Evl (Ex)
section
variable {X : Cx}
end
section
variable {X : Cx} {c : Cf}
end
end Nv
-- N88
namespace PySem
open Sem (wp)
namespace F
theorem args_sum2 (a b : Value) : argsOk "sum" ⟨[a, b], []⟩ := by unfold argsOk; kernel_rfl
end F
section
variable {prog : Program} {w : World} {A : Around} {R : Result → Shared → Prop} {I : Addr} {fp wr : List Addr} {n : Nat} {St : Nat → Heap → Prop}
def preL (f : Nat → List Value) : Nat → List Value
  | 0 => []
  | j + 1 => preL f j ++ f j
theorem codeAny_sum_lists {P : Nat → Value → Prop} (W : Walks prog w A.in1 I fp wr n P St) (h0 : Heap) (f : Nat → List Value) (hval : ∀ i v, P i v → ∃ r c, v = .ref r ∧ PySem.IsL h0 r (f i).toArray c) (S : Addr) (hSf : S ∉ fp) (hS0 : h0.objs.size ≤ S)
    (hwr : ∀ b ∈ wr, h0.objs.size ≤ b) (hst : ∀ i h, St i h → ∀ b ∈ wr, h.objs.size > b) (hlen : (preL f n).length ≤ sizeLine) (hmono : ∀ i, i ≤ n → (preL f i).length ≤ sizeLine) :
    ∀ (k i : Nat) (s : Shared) (T c cT : Nat), n - i = k → i ≤ n → St i s.heap → s.heap.get? S = some { cls := .type "list", dict := none, data := .seq #[.ref T] c, slots := #[] } →
    PySem.IsL s.heap T (preL f i).toArray cT → T ≠ S → T ∉ wr → (∀ b o, h0.get? b = some o → s.heap.get? b = some o) → (i = 0 ∨ h0.objs.size ≤ T) →
    (∀ h' tk T' c', (∀ b o, h0.get? b = some o → h'.get? b = some o) → PySem.IsL h' T' (preL f n).toArray c' → (n = 0 ∨ h0.objs.size ≤ T') → R (.ok (.ret (.ref T'))) { s with heap := h', toks := tk }) →
    codeAny (model prog w) A (.builtin "sum.loop" ⟨[.ref I, .ref S, rawInt 2, rawInt 0], []⟩) R s := by
  have hSw : S ∉ wr := fun h => hSf (W.sub _ h)
  have lt0 : ∀ {b : Nat} {o}, h0.get? b = some o → b < h0.objs.size := fun e => Heap.lt_size e
  intro k
  induction k with
  | zero =>
    intro i s T c cT hk hi hs hS hT hTS hTw keep hnew hR
    have hin : i = n := by omega
    subst hin
    refine codeAny_builtin F.entry_sum_loop ?_
    rw [Around.under_plainId F.plain_sum_loop _]
    show wpAny _ A.in1 (seqItems? (.ref S) >>= _) _ _ s
    refine wpAny_bind (wpAny_seqItems hS rfl ?_)
    show wpAny _ A.in1 (tryCatch (pyNext (.ref I)) _ >>= _) _ _ s
    refine wpAny_bind (wpAny_tryCatch (W.done s _ _ hs fun h' tk hk' => ?_))
    refine wpAny_pure (hR h' tk T cT (fun b o e => hk' b o (fun z => ?_) (keep b o e)) (hk' T _ hTw hT) hnew)
    exact absurd (hwr b z) (by have := lt0 e; omega)
  | succ k ih =>
    intro i s T c cT hk hi hs hS hT hTS hTw keep hnew hR
    have hlt : i < n := by omega
    refine codeAny_builtin F.entry_sum_loop ?_
    rw [Around.under_plainId F.plain_sum_loop _]
    show wpAny _ A.in1 (seqItems? (.ref S) >>= _) _ _ s
    refine wpAny_bind (wpAny_seqItems hS rfl ?_)
    show wpAny _ A.in1 (tryCatch (pyNext (.ref I)) _ >>= _) _ _ s
    refine wpAny_bind (wpAny_tryCatch (W.item i s _ _ hlt hs fun v h' tk hP hst' hk' => ?_))
    obtain ⟨r, cr, rfl, hr⟩ := hval i v hP
    have hS' := hk' S _ hSw hS
    have hT' := hk' T _ hTw hT
    have hr' : PySem.IsL h' r (f i).toArray cr := hk' r _ (fun z => absurd (hwr r z) (by have := lt0 hr; omega)) (keep r _ hr)
    have keep' : ∀ b o, h0.get? b = some o → h'.get? b = some o := fun b o e => hk' b o (fun z => absurd (hwr b z) (by have := lt0 e; omega)) (keep b o e)
    have hSlt : h'.objs.size > S := Heap.lt_size hS'
    have h0le : h0.objs.size ≤ h'.objs.size := by omega
    show wpAny _ A.in1 ((holding [Value.ref r] (binaryOp .Add (.ref T) (.ref r))).attempt >>= _) _ _ _
    have hm := hmono (i + 1) hlt
    have eP : preL f (i + 1) = preL f i ++ f i := rfl
    rw [eP, List.length_append] at hm
    refine wpAny_bind (wpAny_attempt (wpAny_holding (PySem.P.add_list hT' hr' ?_ (by rw [List.size_toArray, List.size_toArray]; exact hm))))
    have ea : (preL f i).toArray ++ (f i).toArray = (preL f (i + 1)).toArray := by rw [eP]; simp
    rw [ea]
    have hS1 : (h'.push { cls := .type "list", data := .seq (preL f (i + 1)).toArray }).get? S = some { cls := .type "list", dict := none, data := .seq #[.ref T] c, slots := #[] } := Heap.get?_push_of_some _ hS'
    show wpAny _ A.in1 (updateSeq S (fun _ => #[.ref h'.objs.size]) >>= _) _ _ _
    refine wpAny_bind (wpAny_updateSeq hS1 rfl ?_)
    have hS₂ := Heap.get?_update_self (Obj.mapSeq fun _ => #[Value.ref h'.objs.size]) hS1 rfl
    refine wpAny_bind (wpAny_letGo ?_)
    have oth : ∀ b o, b ≠ S → h'.get? b = some o → (((h'.push { cls := .type "list", data := .seq (preL f (i + 1)).toArray }).update S (Obj.mapSeq fun _ => #[Value.ref h'.objs.size])).update S (Obj.mapSeq fun _ => #[Value.ref h'.objs.size])).get? b = some o := fun b o hb e =>
      (Heap.get?_update_other _ _ (fun h : S = b => hb h.symm)).trans ((Heap.get?_update_other _ _ (fun h : S = b => hb h.symm)).trans (Heap.get?_push_of_some _ e))
    refine wpAny_bind (wpAny_updateSeq hS₂ rfl (wpAny_pure ⟨plainId_quiet F.plain_sum_loop _, ih (i + 1) _ h'.objs.size _ 0 (by omega) hlt (W.frame _ _ _ hst' fun b hb o e => ?_) (Heap.get?_update_self _ hS₂ rfl) ?_ (by omega) (fun z => ?_) (fun b o e => ?_) (.inr h0le) fun h'' tk'' T' c' a b d => ?_⟩))
    · exact oth b o (fun z => hSf (by rw [← z]; exact hb)) e
    · exact (Heap.get?_update_other _ _ (Nat.ne_of_lt hSlt)).trans ((Heap.get?_update_other _ _ (Nat.ne_of_lt hSlt)).trans (Heap.get?_push_size _ rfl))
    · have := hst _ _ hst' _ z
      omega
    · exact oth b o (Nat.ne_of_lt (Nat.lt_of_lt_of_le (lt0 e) hS0)) (keep' b o e)
    · exact hR h'' tk'' T' c' a b d
end
section
variable {prog : Program} {w : World} {A : Around} {E : Value → Shared → Prop} {s : Shared}
theorem sub_list_strS : isSubtype (.type "list") (.type "str") = pure false := by rw [isSubtype_type]; kernel_rfl
theorem sub_list_bytesS : isSubtype (.type "list") (.type "bytes") = pure false := by rw [isSubtype_type]; kernel_rfl
theorem sub_list_bytearrayS : isSubtype (.type "list") (.type "bytearray") = pure false := by rw [isSubtype_type]; kernel_rfl
theorem preL_le (f : Nat → List Value) : ∀ (n i : Nat), i ≤ n → (preL f i).length ≤ (preL f n).length
  | 0, i, h => by
    have : i = 0 := by omega
    subst this
    exact Nat.le_refl _
  | n + 1, i, h => by
    by_cases z : i = n + 1
    · subst z; exact Nat.le_refl _
    · have q := preL_le f n i (by omega)
      have e : preL f (n + 1) = preL f n ++ f n := rfl
      rw [e, List.length_append]
      omega
theorem call_sum_lists {l e : Addr} {items : Array Value} {ce : Nat} {Q : Value → Shared → Prop} (hh : A.handled = none) (hl : s.heap.IsList l items) (he : PySem.IsL s.heap e #[] ce) (f : Nat → List Value)
    (hval : ∀ i v, items[i]? = some v → ∃ r c, v = .ref r ∧ PySem.IsL s.heap r (f i).toArray c) (hn : 0 < items.size) (hlen : (preL f items.size).length ≤ sizeLine)
    (hQ : ∀ h' tk T c, (∀ b o, s.heap.get? b = some o → h'.get? b = some o) → PySem.IsL h' T (preL f items.size).toArray c → s.heap.objs.size ≤ T → Q (.ref T) { s with heap := h', toks := tk }) :
    wpAny (model prog w) A (call (.builtin "sum") [.ref l, .ref e]) Q E s := by
  refine call_function_tree F.kind_sum F.plain_sum F.entry_sum (F.args_sum2 _ _) ?_
  unfold Builtin.«sum»
  simp only [List.length_cons, List.length_nil]
  rw [if_neg (by decide)]
  refine wpAny_bind (wpAny_of_eq (show Builtin.Builtins.bindParams "sum" ["start"] 0 { pos := [.ref e] } = pure [some (.ref e)] from rfl) ?_)
  have hlt : s.heap.objs.size > l := by obtain ⟨_, e, _⟩ := hl; exact Heap.lt_size e
  have hlte : s.heap.objs.size > e := Heap.lt_size he
  refine wpAny_bind (wpAny_pyIter_list hl ?_)
  refine wpAny_bind (wpAny_pure ?_)
  simp only [List.forIn_cons, List.forIn_nil]
  have he1 : PySem.IsL (s.heap.push { cls := .type "list_iterator", data := .fields #[.ref l, .int 0 0] }) e #[] ce := Heap.get?_push_of_some _ he
  have hT : Shared.TypeIs { s with heap := s.heap.push { cls := .type "list_iterator", data := .fields #[.ref l, .int 0 0] } } (.ref e) "list" := ⟨_, he1, rfl⟩
  refine wpAny_bind (wpAny_bind (wpAny_bind (wpAny_isInstance (T := "list") (b := false) hT sub_list_strS ?_)))
  simp only [Bool.false_eq_true, if_false]
  refine wpAny_pure (wpAny_bind (wpAny_bind (wpAny_isInstance (T := "list") (b := false) hT sub_list_bytesS ?_)))
  simp only [Bool.false_eq_true, if_false]
  refine wpAny_pure (wpAny_bind (wpAny_bind (wpAny_isInstance (T := "list") (b := false) hT sub_list_bytearrayS ?_)))
  simp only [Bool.false_eq_true, if_false]
  refine wpAny_pure (wpAny_pure ?_)
  refine wpAny_bind (wpAny_newObj_type ?_)
  have hne : l ≠ s.heap.objs.size := Nat.ne_of_lt hlt
  have hh3 : A.in1.handled = none := by simp [hh]
  have ez : (s.heap.push { cls := .type "list_iterator", data := .fields #[.ref l, .int 0 0] }).objs.size = s.heap.objs.size + 1 := Heap.size_push _ _
  refine wpAny_pure ⟨plainId_quiet F.plain_sum_loop _, codeAny_sum_lists (Walks.list (A := A.in1) hh3 s.heap.objs.size l hne items) s.heap f hval (s.heap.push { cls := .type "list_iterator", data := .fields #[.ref l, .int 0 0] }).objs.size ?_ (by rw [ez]; omega) ?_ ?_ hlen (fun i hi => Nat.le_trans (preL_le f _ i hi) hlen) items.size 0 _ e 0 ce (by omega) (Nat.zero_le _) ?_ (Heap.get?_push_size _ rfl) (Heap.get?_push_of_some _ he1) (by rw [ez]; omega) ?_ (fun b o x => Heap.get?_push_of_some _ (Heap.get?_push_of_some _ x)) (.inl rfl) fun h' tk T' c' a b d => ?_⟩
  · rw [ez, List.mem_cons, List.mem_singleton]
    rintro (z | z)
    · exact Nat.ne_of_gt (Nat.lt_succ_self _) z
    · exact Nat.ne_of_gt (Nat.lt_succ_of_lt hlt) z
  · intro b hb
    rw [List.mem_singleton] at hb
    rw [hb]
    exact Nat.le_refl _
  · intro i h st b hb
    rw [List.mem_singleton] at hb
    subst hb
    obtain ⟨⟨o, ho, _⟩, _⟩ := st
    exact Heap.lt_size ho
  · exact ⟨⟨_, Heap.get?_push_of_some _ (Heap.get?_push_size _ rfl), rfl, rfl⟩, (hl.push _).push _⟩
  · rw [List.mem_singleton]
    exact Nat.ne_of_lt hlte
  · exact hQ h' tk T' c' a b (by rcases d with d | d; omega; exact d)
end
end PySem
-- N89
namespace Nv
open PySem PySem.Spec PyProof.Rows L2
open Evl (Ex)
section
variable {X : Cx}
def rSumL : List V → Hp → VK → Prop := fun vs H Q => ∃ (a b : Addr) (ps : List (Addr × List V)), vs = [.ref a, .ref b] ∧ H a = some (.lst (ps.map fun p => V.ref p.1)) ∧ H b = some (.lst []) ∧ ps ≠ [] ∧ (∀ p ∈ ps, H p.1 = some (.lst p.2)) ∧ (ps.map (·.2)).flatten.length ≤ sizeLine ∧
  ∀ p, H p = none → Q (.ref p) (upd H p (.lst (ps.map (·.2)).flatten))
theorem vals_refs {ps : List (Addr × List V)} {its : List Value} (h : Vals (ps.map fun p => V.ref p.1) its) : its = ps.map fun p => Value.ref p.1 := by
  induction ps generalizing its with
  | nil => cases h; rfl
  | cons p ps ih =>
    cases h with
    | cons a b =>
      cases a
      rw [ih b]
      rfl
theorem cr_sumL (hc : X.calm = true) : CallR X (.builtin "sum") rSumL := by
  intro pins s σ H vs us Q I r h
  obtain ⟨a, b, ps, rfl, hA, hB, hne, hp, hz, q⟩ := h
  obtain ⟨u1, u2, rfl, e1, e2⟩ := vals2 r
  cases e1
  cases e2
  obtain ⟨_, its, n, v1, l1, g1⟩ := I.lstM hA
  obtain ⟨_, its2, n2, v2, l2, g2⟩ := I.lstM hB
  cases vals_refs v1
  cases v2
  have hf : ∀ i : Nat, ∃ its : List Value, ∀ h : i < ps.length, ∃ c, Vals (ps[i]).2 its ∧ PySem.IsL s.heap (ps[i]).1 its.toArray c := fun i => by
    by_cases h : i < ps.length
    · obtain ⟨_, its, n, v, _, g⟩ := I.lstM (hp _ (List.getElem_mem h))
      exact ⟨its, fun _ => ⟨n, v, g⟩⟩
    · exact ⟨[], fun z => absurd z h⟩
  obtain ⟨f, hf⟩ : ∃ f : Nat → List Value, ∀ i, ∀ h : i < ps.length, ∃ c, Vals (ps[i]).2 (f i) ∧ PySem.IsL s.heap (ps[i]).1 (f i).toArray c := ⟨fun i => (hf i).choose, fun i => (hf i).choose_spec⟩
  have hv : ∀ i, i ≤ ps.length → Vals (((ps.take i).map (·.2)).flatten) (preL f i) := by
    intro i
    induction i with
    | zero => intro _; exact .nil
    | succ i ih =>
      intro hi
      obtain ⟨c, v, _⟩ := hf i hi
      have e : ((ps.take (i + 1)).map (·.2)).flatten = ((ps.take i).map (·.2)).flatten ++ (ps[i]).2 := by
        rw [List.take_succ_eq_append_getElem hi, List.map_append, List.flatten_append]
        simp
      rw [e]
      exact (ih (by omega)).append v
  have hv1 := hv ps.length (Nat.le_refl _)
  rw [List.take_length] at hv1
  have sz : ((ps.map fun p => Value.ref p.1).toArray).size = ps.length := by rw [List.size_toArray, List.length_map]
  refine PySem.call_sum_lists (I.ok.hd hc) (e := b) (items := (ps.map fun p => Value.ref p.1).toArray) ⟨_, g1, rfl, n, rfl⟩ g2 f (fun i v hi => ?_) (by rw [sz]; exact List.length_pos_iff.mpr hne) (by rw [sz, ← hv1.length]; exact hz) (fun h' tk T c keep hT hle => ?_)
  · rw [List.getElem?_toArray, List.getElem?_map] at hi
    have hi2 : i < ps.length := by
      by_cases z : i < ps.length
      · exact z
      · rw [List.getElem?_eq_none (by omega)] at hi
        cases hi
    obtain ⟨c, _, g⟩ := hf i hi2
    rw [List.getElem?_eq_getElem hi2] at hi
    cases hi
    exact ⟨_, c, rfl, g⟩
  · rw [sz] at hT
    exact ⟨.ref T, upd H T (.lst (ps.map (·.2)).flatten), I.laid (t' := tk) keep hle ⟨hz, _, c, hv1, hT⟩, rfl, q T (I.hok.fresh hle)⟩
end
section
variable {X : Cx} {c : Cf}
def lstsO : List D → Option (List (List D))
  | [] => some []
  | .lst l :: r => (lstsO r).map (l :: ·)
  | _ => none
theorem lstsO_eq : ∀ {l : List D} {bs : List (List D)}, lstsO l = some bs → l = bs.map .lst
  | [], _, h => by cases h; rfl
  | d :: l, bs, h => by
    unfold lstsO at h
    split at h
    · rename_i h'; cases h'
    · rename_i b r h'
      cases h'
      obtain ⟨bs', h1, rfl⟩ := Option.map_eq_some_iff.mp h
      rw [lstsO_eq h1]; rfl
    · cases h
theorem lstsO_map : ∀ ls : List (List D), lstsO (ls.map D.lst) = some ls
  | [] => rfl
  | l :: ls => by
    rw [List.map_cons]
    unfold lstsO
    rw [lstsO_map ls]
    rfl
def gSumL : D → D → Option AV
  | .lst l, .lst [] => match lstsO l with
    | some bs => if bs ≠ [] ∧ bs.flatten.length ≤ sizeLine then some (.own (.lst bs.flatten)) else none
    | none => none
  | _, _ => none
theorem reps_lsts {M : Md} {F H : Hp} (sub : Ex F H) : ∀ {bs : List (List D)} {xs : List V}, Reps M F (bs.map D.lst) xs → ∃ ps : List (Addr × List V), xs = (ps.map fun p => V.ref p.1) ∧ (∀ p ∈ ps, H p.1 = some (.lst p.2)) ∧ Reps M F bs.flatten (ps.map (·.2)).flatten ∧ ps.length = bs.length
  | [], _, h => by cases reps_nil.mp h; exact ⟨[], rfl, (fun _ h => nomatch h), Reps.nil, rfl⟩
  | b :: bs, _, h => by
    obtain ⟨v, r, rfl, h1, h2⟩ := reps_cons.mp h
    obtain ⟨a, zs, rfl, h3, h4⟩ := rep_lst.mp h1
    obtain ⟨ps, rfl, h5, h6, h7⟩ := reps_lsts sub h2
    refine ⟨(a, zs) :: ps, rfl, fun p hp => ?_, ?_, by rw [List.length_cons, List.length_cons, h7]⟩
    · rcases List.mem_cons.mp hp with rfl | hp
      · exact sub _ _ h3
      · exact h5 p hp
    · rw [List.flatten_cons, List.map_cons, List.flatten_cons]
      exact h4.append h6
theorem os_sumL {M : Md} : OpS M rSumL (gA2 gSumL) := opS2 fun F H x y d1 d2 av Q sub r1 r2 e h => by
  unfold gSumL at e
  split at e
  · split at e
    · rename_i bs hb
      split at e
      · rename_i hh
        obtain ⟨h1, h2⟩ := hh
        cases e
        obtain ⟨a, xs, rfl, k1, k2⟩ := r1_lst r1
        obtain ⟨b, ys, rfl, k3, k4⟩ := r1_lst r2
        cases reps_nil.mp k4
        rw [lstsO_eq hb] at k2
        obtain ⟨ps, rfl, p1, p2, p3⟩ := reps_lsts sub k2
        exact ⟨a, b, ps, rfl, k1, k3, (fun z => h1 (by rw [z] at p3; exact List.eq_nil_of_length_eq_zero p3.symm)), p1, by rw [p2.length]; exact h2, fun p hn => fin_lst sub h hn p2⟩
      · cases e
    · cases e
  · cases e
theorem do_sumL {e1 e2 : Expr} {f : Ev → Rs (List OV)} {p pos : Pos} (hc : X.calm = true) (hm : X.mg "sum" = none) (ha : DA X c (e1 :: [e2]) f) (hg : Gl X "sum" := by rfl) (he : starEach (e1 :: [e2]) X.env = (false, eval e1 X.env) :: starEach [e2] X.env := by rfl) (hpl : (backTo pos (starEach [e2] X.env)).any (·.1) = false := by rfl) : DO X c (.Call (.Name "sum" p) (e1 :: [e2]) [] pos) (opA (gA2 gSumL) f) :=
  do_callB (r := rSumL) (cr_sumL hc) os_sumL hm ha (hg := hg) (he := he) (hpl := hpl)
end
theorem gSumL_map {ls : List (List D)} (h : ls ≠ []) (hz : ls.flatten.length ≤ 1000000) : gSumL (.lst (ls.map D.lst)) (.lst []) = some (.own (.lst ls.flatten)) := by
  unfold gSumL
  dsimp only
  rw [lstsO_map]
  dsimp only
  rw [if_pos ⟨h, by rw [sizeLine_eq]; omega⟩]
end Nv
-- N90
namespace Nv
open PySem PySem.Spec PyProof.Rows L2
open Evl (Ex)
/-- D holds new lists ps -/
structure Mats (M : Md) (F H : Hp) (A : Addr → Prop) (D : Addr) (ps : List (Addr × List Nv.D)) : Prop where
  nd : (ps.map (·.1)).Nodup
  at_ : H D = some (.lst (ps.map fun p => V.ref p.1))
  no : ∀ p ∈ ps, p.1 ≠ D ∧ F p.1 = none ∧ ¬ A p.1 ∧ ∃ zs, H p.1 = some (.lst zs) ∧ Reps M F p.2 zs
def MatA (A0 : Addr → Prop) (H0 : Hp) (ps : List (Addr × List Nv.D)) : Prop := ∀ p ∈ ps, A0 p.1 ∨ H0 p.1 = none
theorem Mats.ext {M : Md} {F H F' H' : Hp} {A A' : Addr → Prop} {D : Addr} {ps : List (Addr × List Nv.D)} (m : Mats M F H A D ps) (e : Ext A F H A' F' H') (hD : H' D = H D) : Mats M F' H' A' D ps :=
  ⟨m.nd, hD.trans m.at_, fun p hp => by
    obtain ⟨h1, h2, h3, zs, h4, h5⟩ := m.no p hp
    refine ⟨h1, e.fn _ _ h3 h4 h2 trivial, fun z => ?_, zs, e.hh _ _ h3 h4, h5.mono e.ff⟩
    rcases e.aa _ z with z | z
    · exact h3 z
    · rw [h4] at z; cases z⟩
def compML (Γ0 : Ev) (g : TgF) (t : Ev → Rs Bool) (f : Ev → Rs AV) : List D → List (List D) → Ev → Option (List (List D) × Ev)
  | [], acc, Γ => some (acc, Γ)
  | d :: r, acc, Γ => match g d Γ with
    | none => none
    | some Γ1 => match t Γ1 with
      | .ok true Γ2 => (match f Γ2 with
        | .ok (.own (.lst y)) Γ3 => if acc.length < sizeLine then compML Γ0 g t f r (acc ++ [y]) (anchor Γ0 Γ3) else none
        | _ => none)
      | .ok false Γ2 => compML Γ0 g t f r acc (anchor Γ0 Γ2)
      | _ => none
def compM (vs : List Nat) (src : Ev → Rs (List D × List Nat)) (g : TgF) (t : Ev → Rs Bool) (f : Ev → Rs AV) : Ev → Rs (List (List D)) := fun Γ => (src Γ).bind fun p Γ1 =>
  match compML (wipeG Γ1 (vs ++ p.2)) g t f p.1 [] (wipeG Γ1 (vs ++ p.2)) with
  | some (acc, Γ2) => .ok acc (unw Γ1 Γ2 (vs ++ p.2))
  | none => .bad
def vrM (M : Md) : VRel (List (List D)) V := fun σ _ H Γ F' H' Γ' v ls => ∃ (D : Addr) (ps : List (Addr × List Nv.D)), v = .ref D ∧ ls = ps.map (·.2) ∧ F' D = none ∧ ¬ own σ Γ' D ∧ (own σ Γ D ∨ H D = none) ∧ Mats M F' H' (own σ Γ') D ps ∧ MatA (own σ Γ) H ps
theorem rd_lcM {c : Cf} {vs ts : List Nat} {src : Ev → Rs (List D × List Nat)} {tg : TG} {g : TgF} {t : Ev → Rs Bool} {f : Ev → Rs AV} (gs : GSpec c tg ts g) (hts : ∀ i ∈ ts, i ∈ vs) {σ : L2.St} {H : Hp} {Q : VK} (h : tR c (vrM c.M) (compM vs src g t f) σ H Q) :
    tLc (tI2 c src) tg (tR c.calm vrT t) (tR c.calm (vrO c.M) f) vs σ H Q := by
  obtain ⟨F, Γ, r, q⟩ := h
  refine ⟨F, Γ, r, (PoI2.bind2 q).imp fun J H1 ⟨F1, Γ1, ⟨items, hs⟩, r1, e1, ⟨G, Y, w, hG, hY⟩, q1⟩ => ?_⟩
  intro D nD
  dsimp only at w hG hY q1
  have hv : ∀ i ∈ vs, i ∈ vs ++ hs := fun i hi => List.mem_append_left _ hi
  have r0 : Rel c.M c.σ0 F1 H1 (L2.wipe σ vs) (wipeG Γ1 (vs ++ hs)) := rel_wipe r1 hv
  have hvs : ∀ i t o, (wipeG Γ1 (vs ++ hs))[i]? = some (Slot.own t o) → i ∉ vs := fun i t o q z => by
    rcases wipeG_get q with ⟨_, e⟩ | ⟨n, _⟩
    · cases e
    · exact n (hv i z)
  have nD0 : ¬ own (L2.wipe σ vs) (wipeG Γ1 (vs ++ hs)) D := fun z => by
    obtain ⟨_, u, hu⟩ := r0.ownF z
    rw [nD] at hu; cases hu
  cases hc : compML (wipeG Γ1 (vs ++ hs)) g t f items [] (wipeG Γ1 (vs ++ hs)) with
  | none => rw [hc] at q1; exact q1.elim
  | some res =>
    rw [hc] at q1
    obtain ⟨accF, ΓF⟩ := res
    dsimp only at q1
    refine lc_it w (fun i H' => ∃ F' Γ' ps, Rel c.M c.σ0 F' H' (L2.wipe σ vs) Γ' ∧ Ext (own (L2.wipe σ vs) (wipeG Γ1 (vs ++ hs))) F1 H1 (own (L2.wipe σ vs) Γ') F' H' ∧
      Mats c.M F' H' (own (L2.wipe σ vs) Γ') D ps ∧ MatA (own (L2.wipe σ vs) (wipeG Γ1 (vs ++ hs))) H1 ps ∧ F' D = none ∧ (∀ b, own (L2.wipe σ vs) Γ' b → own (L2.wipe σ vs) (wipeG Γ1 (vs ++ hs)) b) ∧ compML (wipeG Γ1 (vs ++ hs)) g t f (items.drop i) (ps.map (·.2)) Γ' = some (accF, ΓF))
      ⟨F1, _, [], r0.new nD, Ext.new nD, ⟨List.nodup_nil, upd_same, fun _ z => nomatch z⟩, (fun _ z => nomatch z), r1.fr nD, fun _ z => z, hc⟩ ?_ ?_ ?_
    · rintro i H' hi ⟨F', Γ', ps, ra, ea, _⟩
      refine hG F' H' ea.ff ra.sub fun a u ⟨j, hj, t', o', g1, g2, g3⟩ => ?_
      refine ea.hh a u (fun z => ?_) g3
      obtain ⟨k, t2, o2, n, k1, k2⟩ := own_wipe hv z
      have z2 := r1.sep j k _ _ _ _ a g1 k1 g2 k2
      subst z2
      exact n (List.mem_append_right _ hj)
    · rintro i x H' H'' hi ⟨F', Γ', ps, ra, ea, ma, mA, fD, osub, hcl⟩ hy
      obtain ⟨F2, d, hd, e2, sub2, rd⟩ := hY i F' H' x H'' hi ea.ff ra.sub hy
      have ra2 := ra.op e2 sub2
      have e2' : Ext (own (L2.wipe σ vs) Γ') F' H' (own (L2.wipe σ vs) Γ') F2 H'' := e2.sub fun _ z => z.elim
      have ea2 : Ext (own (L2.wipe σ vs) (wipeG Γ1 (vs ++ hs))) F1 H1 (own (L2.wipe σ vs) Γ') F2 H'' := ea.trans e2'
      have hDe : H'' D = H' D := (e2.hh D _ id ma.at_).trans ma.at_.symm
      have ma2 := ma.ext e2' hDe
      have fD2 : F2 D = none := e2.fn D _ id ma.at_ fD trivial
      have hdrop : items.drop i = d :: items.drop (i + 1) := by
        obtain ⟨h1, h2⟩ := List.getElem?_eq_some_iff.mp hd
        rw [← h2]
        exact List.drop_eq_getElem_cons h1
      rw [hdrop] at hcl
      unfold compML at hcl
      cases hgd : g d Γ' with
      | none => rw [hgd] at hcl; cases hcl
      | some Γ3 =>
        rw [hgd] at hcl
        dsimp only at hcl
        refine gs (L2.wipe σ vs) F2 H'' Γ' x d Γ3 _ ra2 rd hgd fun σ3 x1 x2 x3 => ?_
        have hw3 : L2.wipe σ3 vs = L2.wipe σ vs := by rw [x3 vs hts, wipe_idem]
        refine ⟨hw3, F2, Γ3, x1, ?_⟩
        have nD3 : ¬ own σ3 Γ3 D := fun z => nD0 (osub D (x2 D z))
        have e3 : Ext (own (L2.wipe σ vs) Γ') F2 H'' (own σ3 Γ3) F2 H'' := ⟨Evl.Ex.refl _, fun _ _ _ h => h, fun _ _ _ _ h _ => h, fun b z => .inl (x2 b z)⟩
        have ma3 := ma2.ext e3 rfl
        have ea3 := ea2.trans e3
        -- what is done at the end of the turn
        have fin : ∀ {F5 H5 : Hp} {Γ5 : Ev} {ps5 : List (Addr × List Nv.D)} {u5 : HO}, Rel c.M c.σ0 F5 H5 σ3 Γ5 → Ext (own σ3 Γ3) F2 H'' (own σ3 Γ5) F5 H5 → F5 D = none →
            Mats c.M F5 (upd H5 D u5) (own σ3 Γ5) D ps5 → MatA (own (L2.wipe σ vs) (wipeG Γ1 (vs ++ hs))) H1 ps5 → compML (wipeG Γ1 (vs ++ hs)) g t f (items.drop (i + 1)) (ps5.map (·.2)) (anchor (wipeG Γ1 (vs ++ hs)) Γ5) = some (accF, ΓF) →
            ∃ F' Γ' ps, Rel c.M c.σ0 F' (upd H5 D u5) (L2.wipe σ vs) Γ' ∧ Ext (own (L2.wipe σ vs) (wipeG Γ1 (vs ++ hs))) F1 H1 (own (L2.wipe σ vs) Γ') F' (upd H5 D u5) ∧
              Mats c.M F' (upd H5 D u5) (own (L2.wipe σ vs) Γ') D ps ∧ MatA (own (L2.wipe σ vs) (wipeG Γ1 (vs ++ hs))) H1 ps ∧ F' D = none ∧ (∀ b, own (L2.wipe σ vs) Γ' b → own (L2.wipe σ vs) (wipeG Γ1 (vs ++ hs)) b) ∧ compML (wipeG Γ1 (vs ++ hs)) g t f (items.drop (i + 1)) (ps.map (·.2)) Γ' = some (accF, ΓF) :=
          fun {F5 H5 Γ5 ps5 u5} r5 e5 fD5 m5 mA5 hc5 => by
            obtain ⟨y1, y2⟩ := rel_anchor r0 r5 (ea2.ff.trans e5.ff) hw3 hvs
            have ex : Ext (own (L2.wipe σ vs) (wipeG Γ1 (vs ++ hs))) F1 H1 (own (L2.wipe σ vs) (anchor (wipeG Γ1 (vs ++ hs)) Γ5)) F5 H5 :=
              (ea2.trans ((e5.wk x2).subA fun b z => (y2 b z).2))
            have nDa : ¬ own (L2.wipe σ vs) (anchor (wipeG Γ1 (vs ++ hs)) Γ5) D := fun z => nD0 (y2 D z).1
            refine ⟨F5, _, ps5, ?_, ?_, ⟨m5.nd, m5.at_, fun p hp => ?_⟩, mA5, fD5, fun b z => (y2 b z).1, hc5⟩
            · refine y1.grow (Evl.Ex.refl _) (fun b u hb => ?_) fun b z => ⟨upd_ne fun e => nDa (e ▸ z), (y1.ownF z).1⟩
              rw [upd_ne fun e => by rw [e, fD5] at hb; cases hb]
              exact r5.sub b u hb
            · refine ⟨ex.ff, fun b u n hb => ?_, ex.fn, ex.aa⟩
              rw [upd_ne (ne_of_none hb nD)]
              exact ex.hh b u n hb
            · obtain ⟨z1, z2, z3, z4⟩ := m5.no p hp
              exact ⟨z1, z2, fun z => z3 (y2 _ z).2, z4⟩
        cases ht : t Γ3 with
        | bad => rw [ht] at hcl; cases hcl
        | ex n l Γ4 => rw [ht] at hcl; cases hcl
        | ok b Γ4 =>
          rw [ht] at hcl
          intro F4 H4 v r4 e4 ev
          have ev2 : v = b := ev
          subst ev2
          have hD4 : H4 D = H'' D := (e4.hh D _ nD3 ma3.at_).trans ma3.at_.symm
          have ma4 := ma3.ext e4 hD4
          have fD4 : F4 D = none := e4.fn D _ nD3 ma3.at_ fD2 trivial
          have nD4 : ¬ own σ3 Γ4 D := fun z => by
            rcases e4.aa D z with z | z
            · exact nD3 z
            · rw [ma3.at_] at z; cases z
          cases v with
          | false =>
            rw [if_neg (by decide)]
            have same : upd H4 D (.lst (ps.map fun p => V.ref p.1)) = H4 := by
              funext b
              by_cases hb : b = D
              · subst hb; rw [upd_same, ma4.at_]
              · rw [upd_ne hb]
            have z := fin (u5 := .lst (ps.map fun p => V.ref p.1)) r4 e4 fD4 (by rw [same]; exact ma4) mA hcl
            rw [same] at z
            exact z
          | true =>
            rw [if_pos rfl]
            dsimp only at hcl
            refine ⟨F4, Γ4, r4, ?_⟩
            cases hf : f Γ4 with
            | bad => rw [hf] at hcl; cases hcl
            | ex n l Γ5 => rw [hf] at hcl; cases hcl
            | ok y Γ5 =>
              rw [hf] at hcl
              cases y with
              | dat y => cases hcl
              | own y =>
                cases y with
                | dct y => cases hcl
                | dtt y => cases hcl
                | ins cn y => cases hcl
                | lst y =>
                  dsimp only at hcl
                  intro F5 H5 v r5 e5 rv
                  split at hcl
                  · rename_i hlen
                    have hD5 : H5 D = H4 D := (e5.hh D _ nD4 ma4.at_).trans ma4.at_.symm
                    have ma5 := ma4.ext e5 hD5
                    have fD5 : F5 D = none := e5.fn D _ nD4 ma4.at_ fD4 trivial
                    obtain ⟨a, rfl, fa, na, ⟨zs, ha, hz⟩, back⟩ := rv
                    have aD : a ≠ D := fun z => by
                      subst z
                      rcases back with z | z
                      · exact nD4 z
                      · rw [ma4.at_] at z; cases z
                    have ab : ∀ p ∈ ps, p.1 ≠ a := fun p hp z => by
                      obtain ⟨_, _, z3, zs, z4, _⟩ := ma4.no p hp
                      rw [z] at z3 z4
                      rcases back with z | z
                      · exact z3 z
                      · rw [z4] at z; cases z
                    refine ⟨_, ma5.at_, by rw [List.length_map] at hlen ⊢; exact hlen, ?_⟩
                    have hap : (ps.map fun p => V.ref p.1) ++ [V.ref a] = (ps ++ [(a, y)]).map fun p => V.ref p.1 := by rw [List.map_append]; rfl
                    rw [hap]
                    refine fin r5 (e4.trans e5) fD5 ⟨?_, upd_same, fun p hp => ?_⟩ (fun p hp => ?_) (by rw [List.map_append]; exact hcl)
                    · rw [List.map_append, List.nodup_append]
                      refine ⟨ma5.nd, by simp, fun b hb b' hb' => ?_⟩
                      obtain ⟨p, hp, rfl⟩ := List.mem_map.mp hb
                      simp only [List.map_cons, List.map_nil, List.mem_singleton] at hb'
                      rw [hb']
                      exact ab p hp
                    · rcases List.mem_append.mp hp with hp | hp
                      · obtain ⟨z1, z2, z3, zs', z4, z5⟩ := ma5.no p hp
                        exact ⟨z1, z2, z3, zs', by rw [upd_ne z1]; exact z4, z5⟩
                      · rw [List.mem_singleton.mp hp]
                        exact ⟨aD, fa, na, zs, by rw [upd_ne aD]; exact ha, hz⟩
                    · rcases List.mem_append.mp hp with hp | hp
                      · exact mA p hp
                      · rw [List.mem_singleton.mp hp]
                        exact (ea3.trans e4).back back
                  · cases hcl
    · rintro H' ⟨F', Γ', ps, ra, ea, ma, mA, fD, osub, hcl⟩
      rw [List.drop_length] at hcl
      unfold compML at hcl
      cases hcl
      obtain ⟨y1, y2, y3⟩ := rel_unw r1 hv ra ea osub
      refine q1 F' H' (.ref D) y1 (e1.trans y2) ⟨D, ps, rfl, rfl, fD, fun z => ?_, e1.back (.inr nD), ⟨ma.nd, ma.at_, fun p hp => ?_⟩, fun p hp => ?_⟩
      · obtain ⟨_, u, hu⟩ := r1.ownF (y3 D z)
        rw [nD] at hu; cases hu
      · obtain ⟨z1, z2, z3, z4⟩ := ma.no p hp
        refine ⟨z1, z2, fun ⟨i, t, o, h1, h2⟩ => ?_, z4⟩
        have ll : ΓF.length = Γ1.length := by rw [← ra.len, wipe_length, r1.len]
        rcases unw_get ll h1 with ⟨m, g1⟩ | ⟨n, g1⟩
        · rcases mA p hp with z | z
          · obtain ⟨j, t', o', n, k1, k2⟩ := own_wipe hv z
            have q := r1.sep i j _ _ _ _ _ g1 k1 h2 k2
            subst q
            exact n m
          · obtain ⟨_, u, hu⟩ := r1.ownF ⟨i, t, o, g1, h2⟩
            rw [z] at hu; cases hu
        · refine z3 ⟨i, t, o, g1, ?_⟩
          rw [wipe_out fun z => n (hv i z)]
          exact h2
      · refine e1.back ?_
        rcases mA p hp with z | z
        · obtain ⟨j, t', o', n, k1, k2⟩ := own_wipe hv z
          exact .inl ⟨j, t', o', k1, k2⟩
        · exact .inr z
section
variable {X : Cx} {c : Cf}
/-- an expression that makes a list of new lists -/
abbrev DM (X : Cx) (c : Cf) (e : Expr) (f : Ev → Rs (List (List D))) : Prop := PE X e (tR c (vrM c.M) f)
theorem dm_lc {elt tg iter : Expr} {ifs : List Expr} {scope : Scope} {own : List (Str × Nat)} {pos : Pos} {src : Ev → Rs (List D × List Nat)} {g : TG} {gf : TgF} {ts : List Nat} {t : Ev → Rs Bool} {f : Ev → Rs AV} (hc : X.calm = true) (hN : X.N.Nodup) (hi : DI2 X c tg iter src) (ok : BlkOk X.N X.env.scope scope own)
    (hg : ∀ (s : Shared) (H : Hp) (C : Addr) (cl : List (Str × Addr)) (fp : List Addr), PG (X.blk s H scope (compEnvC scope cl C X.env) fp) tg g) (gs : GSpec c g ts gf) (hts : ∀ i ∈ ts, i ∈ own.map (·.2)) (ht : ∀ (s : Shared) (H : Hp) (C : Addr) (cl : List (Str × Addr)) (fp : List Addr), DTs (X.blk s H scope (compEnvC scope cl C X.env) fp) c.calm ifs t)
    (he : ∀ (s : Shared) (H : Hp) (C : Addr) (cl : List (Str × Addr)) (fp : List Addr), DO (X.blk s H scope (compEnvC scope cl C X.env) fp) c.calm elt f) (hs : ∀ x, foldedSetIterable iter X.env x = pure x := by intro _; rfl) :
    DM X c (.ListComp elt [⟨tg, iter, ifs, 0⟩] scope pos) (compM (own.map (·.2)) src gf t f) := PE.of (pe_lc hc hN hi ok hg ht he hs) fun σ H Q q => rd_lcM gs hts q
end
end Nv
-- N91
namespace Nv
open PySem PySem.Spec PyProof.Rows L2
open Evl (Ex)
theorem inv_ghost {X : Cx} {pins : List (Addr × Obj)} {σ σ' : List (Option V)} {H : Hp} {s : Shared} (I : Inv X pins σ H s) (hl : σ'.length = σ.length)
    (h : ∀ (i : Nat) (x : Str), X.N[i]? = some x → Vis X.env.scope x → σ'[i]? = σ[i]?) : Inv X pins σ' H s :=
  ⟨I.ok, I.os, I.bare, I.base, let ⟨m, hn, hl'⟩ := I.loc; ⟨m, hn, fun i x v e1 e2 e3 => hl' i x v e1 (by rw [← h i x e1 e3]; exact e2) e3⟩, I.cell, I.free, I.freeC, I.pin, I.hok, hl.trans I.len⟩
section
variable {M : Md} {σ0 τ : L2.St} {F H : Hp} {σ : L2.St} {Γ : Ev}
/-- more marks -/
theorem rel_more (r : Rel M σ0 F H σ Γ) : Rel M (σ0 ++ τ) F H σ Γ := by
  refine ⟨r.sub, r.len, fun i s g h1 h2 => ?_, r.sep⟩
  have q := r.slot i s g h1 h2
  cases g with
  | un => trivial
  | dat d => exact q
  | own t o =>
    obtain ⟨a, e1, e2, e3, e4⟩ := q
    refine ⟨a, e1, e2, e3, fun k hk => ?_⟩
    have z := e4 k hk
    have hk2 : k < σ0.length := (List.getElem?_eq_some_iff.mp z).1
    rw [List.getElem?_append_left hk2]
    exact z
/-- the slots of later marks are forgotten -/
def dropK (K : Nat) : Slot → Slot
  | .own (some k) o => if K ≤ k then .un else .own (some k) o
  | g => g
theorem dropK_own {K : Nat} {g : Slot} {t : Option Nat} {o : O} (h : dropK K g = .own t o) : g = .own t o ∧ ∀ k, t = some k → k < K := by
  cases g with
  | un => cases h
  | dat d => cases h
  | own t' o' =>
    cases t' with
    | none => cases h; exact ⟨rfl, fun k z => nomatch z⟩
    | some k =>
      unfold dropK at h
      dsimp only at h
      split at h
      · cases h
      · cases h
        exact ⟨rfl, fun k' z => by cases z; omega⟩
theorem rel_drop (r : Rel M (σ0 ++ τ) F H σ Γ) : Rel M σ0 F H σ (Γ.map (dropK σ0.length)) ∧ ∀ b, own σ (Γ.map (dropK σ0.length)) b → own σ Γ b := by
  have get : ∀ {i : Nat} {t : Option Nat} {o : O}, (Γ.map (dropK σ0.length))[i]? = some (.own t o) → Γ[i]? = some (.own t o) ∧ ∀ k, t = some k → k < σ0.length := fun {i t o} h => by
    rw [List.getElem?_map] at h
    cases e : Γ[i]? with
    | none => rw [e] at h; cases h
    | some g =>
      rw [e] at h
      have h2 : dropK σ0.length g = .own t o := Option.some.inj h
      obtain ⟨q1, q2⟩ := dropK_own h2
      exact ⟨by rw [q1], q2⟩
  refine ⟨⟨r.sub, by rw [List.length_map]; exact r.len, fun i s g h1 h2 => ?_, fun i j t o t' o' a h1 h2 h3 h4 => ?_⟩, fun b ⟨i, t, o, h1, h2⟩ => ⟨i, t, o, (get h1).1, h2⟩⟩
  · cases g with
    | un => trivial
    | dat d =>
      rw [List.getElem?_map] at h2
      cases e : Γ[i]? with
      | none => rw [e] at h2; cases h2
      | some g =>
        rw [e] at h2
        have h3 : dropK σ0.length g = .dat d := Option.some.inj h2
        cases g with
        | un => cases h3
        | dat d' => cases h3; exact r.slot i s _ h1 e
        | own t o =>
          cases t with
          | none => cases h3
          | some k =>
            unfold dropK at h3
            dsimp only at h3
            split at h3 <;> cases h3
    | own t o =>
      obtain ⟨g1, g2⟩ := get h2
      obtain ⟨a, e1, e2, e3, e4⟩ := r.slot i s _ h1 g1
      refine ⟨a, e1, e2, e3, fun k hk => ?_⟩
      have z := e4 k hk
      rw [List.getElem?_append_left (g2 k hk)] at z
      exact z
  · exact r.sep i j t o t' o' a (get h1).1 (get h2).1 h3 h4
/-- a slot is forgotten -/
theorem rel_forget (r : Rel M σ0 F H σ Γ) (i : Nat) : Rel M σ0 F H σ (Γ.set i .un) ∧ ∀ b, own σ (Γ.set i .un) b → own σ Γ b := by
  have get : ∀ {j : Nat} {t : Option Nat} {o : O}, (Γ.set i .un)[j]? = some (.own t o) → Γ[j]? = some (.own t o) := fun {j t o} h => by
    by_cases z : i = j
    · subst z
      by_cases hi : i < Γ.length
      · rw [List.getElem?_set_self hi] at h; cases h
      · rw [List.getElem?_eq_none (by rw [List.length_set]; omega)] at h; cases h
    · rw [List.getElem?_set_ne z] at h
      exact h
  refine ⟨⟨r.sub, by rw [List.length_set]; exact r.len, fun j s g h1 h2 => ?_, fun j k t o t' o' a h1 h2 h3 h4 => r.sep j k t o t' o' a (get h1) (get h2) h3 h4⟩, fun b ⟨j, t, o, h1, h2⟩ => ⟨j, t, o, get h1, h2⟩⟩
  by_cases z : i = j
  · subst z
    by_cases hi : i < Γ.length
    · rw [List.getElem?_set_self hi] at h2; cases h2; trivial
    · rw [List.getElem?_eq_none (by rw [List.length_set]; omega)] at h2; cases h2
  · rw [List.getElem?_set_ne z] at h2
    exact r.slot j s g h1 h2
/-- a ghost slot takes up an object that is nobody's -/
theorem rel_ghost {i k : Nat} {b : Addr} {o : O} (r : Rel M σ0 F H σ Γ) (hi : i < Γ.length) (nf : F b = none) (no : ¬ own σ Γ b) (ho : ORep M F H b o) (hk : σ0[k]? = some (some (.ref b))) :
    Rel M σ0 F H (σ.set i (some (.ref b))) (Γ.set i (.own (some k) o)) ∧ ∀ x, own (σ.set i (some (.ref b))) (Γ.set i (.own (some k) o)) x → own σ Γ x ∨ x = b := by
  have hi2 : i < σ.length := by rw [r.len]; exact hi
  have get : ∀ {j : Nat} {t : Option Nat} {o' : O}, (Γ.set i (.own (some k) o))[j]? = some (.own t o') → j = i ∨ (j ≠ i ∧ Γ[j]? = some (.own t o')) := fun {j t o'} h => by
    by_cases z : i = j
    · exact .inl z.symm
    · rw [List.getElem?_set_ne z] at h
      exact .inr ⟨fun e => z e.symm, h⟩
  refine ⟨⟨r.sub, by rw [List.length_set, List.length_set]; exact r.len, fun j s g h1 h2 => ?_, fun j l t o1 t' o2 a h1 h2 h3 h4 => ?_⟩, fun x ⟨j, t, o1, h1, h2⟩ => ?_⟩
  · by_cases z : i = j
    · subst z
      rw [List.getElem?_set_self hi2] at h1
      rw [List.getElem?_set_self hi] at h2
      cases h1
      cases h2
      exact ⟨b, rfl, nf, ho, fun k' z => by cases z; exact hk⟩
    · rw [List.getElem?_set_ne z] at h1 h2
      exact r.slot j s g h1 h2
  · rcases get h1 with e1 | ⟨n1, g1⟩
    · rcases get h2 with e2 | ⟨n2, g2⟩
      · rw [e1, e2]
      · subst e1
        rw [List.getElem?_set_self hi2] at h3
        rw [List.getElem?_set_ne (Ne.symm n2)] at h4
        cases h3
        exact absurd ⟨l, t', o2, g2, h4⟩ no
    · rw [List.getElem?_set_ne (Ne.symm n1)] at h3
      rcases get h2 with e2 | ⟨n2, g2⟩
      · subst e2
        rw [List.getElem?_set_self hi2] at h4
        cases h4
        exact absurd ⟨j, t, o1, g1, h3⟩ no
      · rw [List.getElem?_set_ne (Ne.symm n2)] at h4
        exact r.sep j l t o1 t' o2 a g1 g2 h3 h4
  · rcases get h1 with e1 | ⟨n1, g1⟩
    · subst e1
      rw [List.getElem?_set_self hi2] at h2
      cases h2
      exact .inr rfl
    · rw [List.getElem?_set_ne (Ne.symm n1)] at h2
      exact .inl ⟨j, t, o1, g1, h2⟩
end
end Nv
-- N92
namespace Nv
open PySem PySem.Spec PyProof.Rows L2
open Evl (Ex)
def ghG (g K : Nat) : List (List D) → Ev → Ev
  | [], Γ => Γ
  | l :: ls, Γ => ghG (g + 1) (K + 1) ls (Γ.set g (.own (some K) (.lst l)))
def ghS (g : Nat) : List Addr → L2.St → L2.St
  | [], σ => σ
  | b :: bs, σ => ghS (g + 1) bs (σ.set g (some (.ref b)))
theorem ghS_len : ∀ {g : Nat} {bs : List Addr} {σ : L2.St}, (ghS g bs σ).length = σ.length
  | _, [], _ => rfl
  | g, b :: bs, σ => by unfold ghS; rw [ghS_len, List.length_set]
theorem ghS_out : ∀ {g : Nat} {bs : List Addr} {σ : L2.St} {i : Nat}, (i < g ∨ g + bs.length ≤ i) → (ghS g bs σ)[i]? = σ[i]?
  | _, [], _, _, _ => rfl
  | g, b :: bs, σ, i, h => by
    rw [List.length_cons] at h
    unfold ghS
    rw [ghS_out (by omega), List.getElem?_set_ne (by omega)]
section
variable {M : Md} {σ0 : L2.St} {F H : Hp}
theorem rel_ghosts : ∀ (ps : List (Addr × List Nv.D)) (g K : Nat) (σ : L2.St) (Γ : Ev), Rel M σ0 F H σ Γ → g + ps.length ≤ Γ.length → (ps.map (·.1)).Nodup →
    (∀ p ∈ ps, F p.1 = none ∧ ¬ own σ Γ p.1 ∧ ∃ zs, H p.1 = some (.lst zs) ∧ Reps M F p.2 zs) → (∀ (i : Nat) (p : Addr × List Nv.D), ps[i]? = some p → σ0[K + i]? = some (some (.ref p.1))) →
    Rel M σ0 F H (ghS g (ps.map (·.1)) σ) (ghG g K (ps.map (·.2)) Γ) ∧ ∀ x, own (ghS g (ps.map (·.1)) σ) (ghG g K (ps.map (·.2)) Γ) x → own σ Γ x ∨ ∃ p ∈ ps, x = p.1
  | [], g, K, σ, Γ, r, _, _, _, _ => ⟨r, fun x h => .inl h⟩
  | p :: ps, g, K, σ, Γ, r, hl, nd, hp, hk => by
    rw [List.length_cons] at hl
    rw [List.map_cons, List.nodup_cons] at nd
    obtain ⟨f1, f2, f3⟩ := hp p List.mem_cons_self
    obtain ⟨r1, o1⟩ := rel_ghost (o := .lst p.2) (k := K) (i := g) r (by omega) f1 f2 f3 (hk 0 p rfl)
    obtain ⟨r2, o2⟩ := rel_ghosts ps (g + 1) (K + 1) _ _ r1 (by rw [List.length_set]; omega) nd.2 (fun q hq => by
      obtain ⟨q1, q2, q3⟩ := hp q (List.mem_cons_of_mem _ hq)
      refine ⟨q1, fun z => ?_, q3⟩
      rcases o1 _ z with z | z
      · exact q2 z
      · exact nd.1 (by rw [← z]; exact List.mem_map_of_mem hq)) fun i q hq => by
      have e : K + 1 + i = K + (i + 1) := by omega
      rw [e]
      exact hk (i + 1) q hq
    refine ⟨r2, fun x h => ?_⟩
    rcases o2 x h with h | ⟨q, hq, h⟩
    · rcases o1 x h with h | h
      · exact .inl h
      · exact .inr ⟨p, List.mem_cons_self, h⟩
    · exact .inr ⟨q, List.mem_cons_of_mem _ hq, h⟩
theorem reps_opq : ∀ bs : List Addr, Reps M F (bs.map D.opq) (bs.map V.ref)
  | [] => Reps.nil
  | b :: bs => by
    rw [List.map_cons, List.map_cons]
    refine reps_cons.mpr ⟨_, _, rfl, ?_, reps_opq bs⟩
    unfold Rep
    rfl
end
/-- behind the region: nothing of it is known -/
def clrG (K r : Nat) (Γ : Ev) : Ev := (Γ.map (dropK K)).set r .un
def Out.clr (K r : Nat) : Out → Out
  | .nx Γ => .nx (clrG K r Γ)
  | .bk Γ => .bk (clrG K r Γ)
  | .ct Γ => .ct (clrG K r Γ)
  | .rt av Γ => .rt av (clrG K r Γ)
  | .ex n l Γ => .ex n l (clrG K r Γ)
  | .bad => .bad
abbrev Cf.more (c : Cf) (bs : List Addr) : Cf := ⟨c.M, c.σ0 ++ bs.map (fun b => some (V.ref b)), c.W⟩
theorem rel_clr {M : Md} {σ0 τ σ : L2.St} {F H : Hp} {Γ : Ev} (r : Rel M (σ0 ++ τ) F H σ Γ) (i : Nat) : Rel M σ0 F H σ (clrG σ0.length i Γ) ∧ ∀ b, own σ (clrG σ0.length i Γ) b → own σ Γ b := by
  obtain ⟨r1, o1⟩ := rel_drop r
  obtain ⟨r2, o2⟩ := rel_forget r1 i
  exact ⟨r2, fun b z => o1 b (o2 b z)⟩
theorem PoS.clr {c : Cf} {bs : List Addr} {σ σ2 : L2.St} {F H F2 H2 : Hp} {Γ Γ2 : Ev} {o : Out} {De : Ends} {i : Nat} (h : PoS c σ F H Γ (o.clr c.σ0.length i) De) (e : Ext (own σ Γ) F H (own σ2 Γ2) F2 H2) : PoS (c.more bs) σ2 F2 H2 Γ2 o De := by
  cases o with
  | nx Γ' => exact fun σ' F' H' r1 e1 => h σ' F' H' (rel_clr r1 i).1 ((e.trans e1).subA (rel_clr r1 i).2)
  | bk Γ' => exact fun σ' F' H' r1 e1 => h σ' F' H' (rel_clr r1 i).1 ((e.trans e1).subA (rel_clr r1 i).2)
  | ct Γ' => exact fun σ' F' H' r1 e1 => h σ' F' H' (rel_clr r1 i).1 ((e.trans e1).subA (rel_clr r1 i).2)
  | rt av Γ' =>
    refine fun σ' F' H' v r1 e1 a => h σ' F' H' v (rel_clr r1 i).1 ((e.trans e1).subA (rel_clr r1 i).2) ?_
    cases av with
    | dat d => exact a
    | own o =>
      obtain ⟨p, y1, y2, y3, y4, y5⟩ := a
      exact ⟨p, y1, y2, fun z => y3 ((rel_clr r1 i).2 p z), y4, e.back y5⟩
  | ex n l Γ' => exact fun σ' F' H' C dx r1 e1 m x => h σ' F' H' C dx (rel_clr r1 i).1 ((e.trans e1).subA (rel_clr r1 i).2) m x
  | bad => exact h
/-- the slots ahead of the region's statements -/
def entE (r g K : Nat) (ls : List (List D)) (bs : List Addr) (Γ : Ev) : Ev := (ghG g K ls Γ).set r (.own none (.lst (bs.map D.opq)))
theorem ghG_out : ∀ {g K : Nat} {ls : List (List D)} {Γ : Ev} {i : Nat}, i < g → (ghG g K ls Γ)[i]? = Γ[i]?
  | _, _, [], _, _, _ => rfl
  | g, K, l :: ls, Γ, i, h => by
    unfold ghG
    rw [ghG_out (by omega), List.getElem?_set_ne (by omega)]
theorem ghG_setOk {g K r : Nat} {ls : List (List D)} {Γ : Ev} (h : r < g) (ok : setOk Γ r = true) : setOk (ghG g K ls Γ) r = true := by
  unfold setOk at ok ⊢
  rw [ghG_out h]
  exact ok
open Classical in
/-- the marks begin at any K from K0 on -/
noncomputable def regK (r g K0 n : Nat) (f : Nat → List Addr → Ev → Out) (ls : List (List D)) (Γ : Ev) : Out :=
  if ls.length ≤ n ∧ (r < g ∧ setOk Γ r = true) ∧ g + ls.length ≤ Γ.length then
    (if h : ∃ o : Out, ∀ (K : Nat) (bs : List Addr), K0 ≤ K → bs.length = ls.length → bs.Nodup → (f K bs (entE r g K ls bs Γ)).clr K r = o then h.choose else .bad)
  else .bad
/-- how a region's run is shown -/
theorem regK_is {r g K0 n : Nat} {f : Nat → List Addr → Ev → Out} {ls : List (List D)} {Γ : Ev} {o : Out} (h1 : ls.length ≤ n) (h2 : r < g) (h3 : setOk Γ r = true) (h4 : g + ls.length ≤ Γ.length)
    (h : ∀ (K : Nat) (bs : List Addr), K0 ≤ K → bs.length = ls.length → bs.Nodup → (f K bs (entE r g K ls bs Γ)).clr K r = o) : regK r g K0 n f ls Γ = o := by
  have ex : ∃ o : Out, ∀ (K : Nat) (bs : List Addr), K0 ≤ K → bs.length = ls.length → bs.Nodup → (f K bs (entE r g K ls bs Γ)).clr K r = o := ⟨o, h⟩
  unfold regK
  rw [if_pos ⟨h1, ⟨h2, h3⟩, h4⟩, dif_pos ex]
  have nd : (List.range ls.length).Nodup := List.nodup_range
  have q1 := ex.choose_spec K0 (List.range ls.length) (Nat.le_refl _) List.length_range nd
  have q2 := h K0 (List.range ls.length) (Nat.le_refl _) List.length_range nd
  rw [← q1, ← q2]
noncomputable def regS (r g K0 n : Nat) (cr : Ev → Rs (List (List D))) (f : Nat → List Addr → Ev → Out) : Ev → Out := fun Γ => (cr Γ).out (regK r g K0 n f)
end Nv
-- N93
namespace Nv
open PySem PySem.Spec PyProof.Rows L2
open Evl (Ex)
/-- an address of the region is the ghost slot's object -/
noncomputable def rowB (g K : Nat) (bs : List Addr) (fo : Ev → Rs D) : Ev → Rs OV := fun Γ => (fo Γ).bind fun od Γ1 => match od with
  | .opq b => (match Γ1[g + bs.idxOf b]? with
    | some (.own (some k) _) => if k = K + bs.idxOf b then .ok (.slot (g + bs.idxOf b)) Γ1 else .bad
    | _ => .bad)
  | _ => .bad
section
variable {X : Cx} {c : Cf} {e o k v : Expr} {pos pos' : Pos}
theorem db_row {bs : List Addr} {fo : Ev → Rs D} (g : Nat) (h : DE X (c.more bs) e fo) : DB X (c.more bs) e (rowB g c.σ0.length bs fo) := by
  refine PE.of h fun σ H Q ⟨F, Γ, r, q⟩ => ⟨F, Γ, r, ?_⟩
  refine (Po.bind (R := vrD (c.more bs).M) q).imp fun v H1 ⟨F1, Γ1, d, r1, e1, a1, q1⟩ => ?_
  split at q1
  · rename_i b
    have hv : v = .ref b := by
      have q : Rep c.M F1 (.opq b) v := a1
      unfold Rep at q
      exact q
    subst hv
    split at q1
    · rename_i t o ho
      split at q1
      · rename_i hk
        subst hk
        obtain ⟨a, h1, h2, h3, h4, h5⟩ := r1.own ho
        have z := h4 _ rfl
        have z : (c.σ0 ++ bs.map (fun b => some (V.ref b)))[c.σ0.length + bs.idxOf b]? = some (some (.ref a)) := z
        rw [List.getElem?_append_right (by omega), Nat.add_sub_cancel_left, List.getElem?_map] at z
        have hm : bs.idxOf b < bs.length := by
          by_cases w : bs.idxOf b < bs.length
          · exact w
          · rw [List.getElem?_eq_none (by omega)] at z; cases z
        rw [List.getElem?_eq_getElem hm, List.getElem_idxOf hm] at z
        cases z
        exact q1 F1 H1 (.ref b) r1 e1 h1
      · exact q1.elim
    · exact q1.elim
  · exact q1.elim
/-- o[k] = v where o is an own object, told by an operand -/
def putB (fb : Ev → Rs OV) (fk : Ev → Rs OV) (fv : Ev → Rs D) : Ev → Out := fun Γ => (fv Γ).out fun d Γ1 => (fb Γ1).out fun ob Γ2 => match ob with
  | .slot i => if isOwn Γ2 i = true then (fk Γ2).out fun ok Γ3 => optS (putR i ok d Γ3) else .bad
  | _ => .bad
theorem ds_putB {fb fk : Ev → Rs OV} {fv : Ev → Rs D} (hu : X.A.units + 1 < cLine) (ho : DB X c o fb) (hk : DB X c k fk) (hv : DE X c v fv) (hs : swapsWith v (some (.Subscript o k pos')) pos.line X.env = pure false := by rfl) :
    DS X c (.Assign [.Subscript o k pos'] v pos) (putB fb fk fv) := by
  refine PS.of (ps_uput hu ho hk hv hs) fun De σ H ⟨F, Γ, r, q⟩ => ⟨F, Γ, r, ?_⟩
  refine (PoS.out (R := vrD c.M) q).imp fun w H1 ⟨F1, Γ1, d, r1, e1, a1, q1⟩ => ?_
  refine ⟨F1, Γ1, r1, ?_⟩
  refine (PoS.out (R := vrB c.M) (PoS.shift e1 q1)).imp fun x H2 ⟨F2, Γ2, ob, r2, e2, a2, q2⟩ => ?_
  split at q2
  · rename_i i
    split at q2
    · rename_i hi
      have hx : σ[i]? = some (some x) := a2
      refine ⟨F2, Γ2, r2, ?_⟩
      refine (PoS.out (R := vrB c.M) (PoS.shift e2 q2)).imp fun y H3 ⟨F3, Γ3, ok, r3, e3, a3, q3⟩ => ?_
      cases hp : putR i ok d Γ3 with
      | none => rw [hp] at q3; exact q3.elim
      | some Γ4 =>
        rw [hp] at q3
        obtain ⟨a', H', x1, x2, x3, x4⟩ := put_rel r3 hx a3 (Rep.mono (e2.ff.trans e3.ff) a1) hp
        exact ⟨a', H', x1, x2, q3 σ F3 H' x3 (e3.trans x4)⟩
    · exact q2.elim
  · exact q2.elim
end
end Nv
-- N94
namespace Nv
open PySem PySem.Spec PyProof.Rows L2
open Evl (Ex)
theorem Rel.nameD {M : Md} {σ0 : L2.St} {F H : Hp} {σ : L2.St} {Γ : Ev} {i : Nat} {t : Option Nat} {o : O} {a : Addr} {u : HO} {d : Nv.D} (r : Rel M σ0 F H σ Γ) (ho : Γ[i]? = some (.own t o)) (h1 : σ[i]? = some (some (.ref a))) (h2 : F a = none) (hu : H a = some u) (hd : Rep M (upd F a u) d (.ref a)) :
    Rel M σ0 (upd F a u) H σ (Γ.set i (.dat d)) ∧ Ext (Nv.own σ Γ) F H (Nv.own σ (Γ.set i (.dat d))) (upd F a u) H := by
  have h5 : Nv.own σ Γ a := ⟨i, t, o, ho, h1⟩
  have hi : i < Γ.length := (List.getElem?_eq_some_iff.mp ho).1
  refine ⟨⟨fun b x e => ?_, by rw [List.length_set]; exact r.len, fun j s g g1 g2 => ?_, fun j k t o1 t' o2 b y1 y2 y3 y4 => ?_⟩, ⟨Evl.Ex.new h2, fun b x n q => q, fun b x n z f _ => ?_, fun b z => .inl (own_drop (by intro t o; exact fun z => nomatch z) z)⟩⟩
  · by_cases z : b = a
    · subst z; rw [upd_same] at e; rw [← e]; exact hu
    · rw [upd_ne z] at e; exact r.sub _ _ e
  · by_cases z : i = j
    · subst z
      rw [List.getElem?_set_self hi] at g2
      cases g2
      rw [h1] at g1
      cases g1
      exact ⟨_, rfl, hd⟩
    · rw [List.getElem?_set_ne z] at g2
      have q1 := r.slot j s g g1 g2
      cases g with
      | un => trivial
      | dat d => obtain ⟨v, x1, x2⟩ := q1; exact ⟨v, x1, x2.mono (Evl.Ex.new h2)⟩
      | own t o2 =>
        obtain ⟨b, x1, x2, x3, x4⟩ := q1
        subst x1
        have nb : b ≠ a := fun e => by
          subst e
          exact z (r.sep i j _ _ _ _ b ho g2 h1 g1)
        exact ⟨b, rfl, by rw [upd_ne nb]; exact x2, x3.mono (Evl.Ex.new h2) rfl, x4⟩
  · have n1 : ∀ {j t} {o' : O}, (Γ.set i (.dat d))[j]? = some (Slot.own t o') → Γ[j]? = some (Slot.own t o') := fun {j t o'} h => by
      by_cases z : i = j
      · subst z
        rw [List.getElem?_set_self hi] at h
        cases h
      · rwa [List.getElem?_set_ne z] at h
    exact r.sep j k _ _ _ _ b (n1 y1) (n1 y2) y3 y4
  · rw [upd_ne (show b ≠ a from fun e => n (by rw [e]; exact h5))]
    exact f
def frzG (g K : Nat) : Nat → Ev → Option (List (List D) × Ev)
  | 0, Γ => some ([], Γ)
  | n + 1, Γ => match Γ[g]? with
    | some (.own (some k) (.lst l)) => if k = K then (frzG (g + 1) (K + 1) n (Γ.set g (.dat (.lst l)))).map fun p => (l :: p.1, p.2) else none
    | _ => none
theorem frzG_rel {M : Md} {σ0 : L2.St} {H : Hp} {σ : L2.St} : ∀ (n g K : Nat) (F : Hp) (Γ : Ev) (ls : List (List Nv.D)) (Γ1 : Ev), Rel M σ0 F H σ Γ → frzG g K n Γ = some (ls, Γ1) →
    ∃ F1, Rel M σ0 F1 H σ Γ1 ∧ Ext (Nv.own σ Γ) F H (Nv.own σ Γ1) F1 H ∧ ls.length = n ∧ ∀ (i : Nat) (l : List Nv.D), ls[i]? = some l → ∃ b, σ0[K + i]? = some (some (.ref b)) ∧ Rep M F1 (.lst l) (.ref b)
  | 0, g, K, F, Γ, ls, Γ1, r, h => by
    cases h
    exact ⟨F, r, Ext.refl, rfl, fun i l z => nomatch z⟩
  | n + 1, g, K, F, Γ, ls, Γ1, r, h => by
    unfold frzG at h
    split at h
    · rename_i k l hg
      split at h
      · rename_i hk
        subst hk
        obtain ⟨⟨ls', Γ'⟩, h1, h2⟩ := Option.map_eq_some_iff.mp h
        cases h2
        obtain ⟨a, x1, x2, ⟨xs, x3, x4⟩, x5, x6⟩ := r.own hg
        obtain ⟨r1, e1⟩ := r.nameD (d := .lst l) hg x1 x2 x3 (rep_lst.mpr ⟨a, xs, rfl, upd_same, x4.mono (Evl.Ex.new x2)⟩)
        obtain ⟨F1, r2, e2, l2, p2⟩ := frzG_rel n (g + 1) (k + 1) _ _ ls' Γ' r1 h1
        refine ⟨F1, r2, e1.trans e2, by rw [List.length_cons, l2], fun i l' hl => ?_⟩
        cases i with
        | zero =>
          cases hl
          exact ⟨a, x5 _ rfl, Rep.mono e2.ff (rep_lst.mpr ⟨a, xs, rfl, upd_same, x4.mono (Evl.Ex.new x2)⟩)⟩
        | succ i =>
          obtain ⟨b, y1, y2⟩ := p2 i l' hl
          refine ⟨b, ?_, y2⟩
          rw [← y1]
          congr 1
          omega
      · cases h
    · cases h
theorem reps_opq_inv {M : Md} {F : Hp} : ∀ {bs : List Addr} {xs : List V}, Reps M F (bs.map Nv.D.opq) xs → xs = bs.map V.ref
  | [], _, h => by cases reps_nil.mp h; rfl
  | b :: bs, _, h => by
    rw [List.map_cons] at h
    obtain ⟨v, r, rfl, h1, h2⟩ := reps_cons.mp h
    unfold Rep at h1
    rw [h1, reps_opq_inv h2]
    rfl
theorem reps_rows {M : Md} {F : Hp} : ∀ {ls : List (List Nv.D)} {bs : List Addr}, ls.length = bs.length → (∀ (i : Nat) (l : List Nv.D) (b : Addr), ls[i]? = some l → bs[i]? = some b → Rep M F (.lst l) (.ref b)) → Reps M F (ls.map Nv.D.lst) (bs.map V.ref)
  | [], [], _, _ => Reps.nil
  | [], _ :: _, h, _ => by cases h
  | _ :: _, [], h, _ => by cases h
  | l :: ls, b :: bs, h, p => by
    rw [List.map_cons, List.map_cons]
    exact reps_cons.mpr ⟨_, _, rfl, p 0 l b rfl rfl, reps_rows (by simpa using h) fun i l' b' h1 h2 => p (i + 1) l' b' h1 h2⟩
open Classical in
noncomputable def matF (r g K : Nat) (bs : List Addr) : Ev → Rs D := fun Γ => match frzG g K bs.length Γ with
  | some (ls, Γ1) => (match Γ1[r]? with
    | some (.own none (.lst ds)) => if ds = bs.map D.opq then .ok (.lst (ls.map D.lst)) (Γ1.set r (.dat (.lst (ls.map D.lst)))) else .bad
    | _ => .bad)
  | none => .bad
section
variable {X : Cx} {c : Cf} {e : Expr}
end
end Nv
-- N95
namespace Nv
open PySem PySem.Spec PyProof.Rows L2
open Evl (Ex)
/-- as vrM, the start told by itself -/
def MatR (M : Md) (A0 : Addr → Prop) (H0 F H : Hp) (A : Addr → Prop) (v : V) (ls : List (List D)) : Prop := ∃ (D : Addr) (ps : List (Addr × List Nv.D)), v = .ref D ∧ ls = ps.map (·.2) ∧ F D = none ∧ ¬ A D ∧ (A0 D ∨ H0 D = none) ∧ Mats M F H A D ps ∧ MatA A0 H0 ps
theorem MatR.keep {M : Md} {A0 A A' : Addr → Prop} {H0 F H F' H' : Hp} {v : V} {ls : List (List D)} (h : MatR M A0 H0 F H A v ls) (e : Ext A F H A' F' H') : MatR M A0 H0 F' H' A' v ls := by
  obtain ⟨D, ps, h1, h2, h3, h4, h5, h6, h7⟩ := h
  have hD := e.hh D _ h4 h6.at_
  refine ⟨D, ps, h1, h2, e.fn D _ h4 h6.at_ h3 trivial, fun z => ?_, h5, h6.ext e (hD.trans h6.at_.symm), h7⟩
  rcases e.aa D z with z | z
  · exact h4 z
  · rw [h6.at_] at z; cases z
/-- .. and another slot is set by something that was not there -/
theorem MatR.keep2 {M : Md} {A0 A A' A2 : Addr → Prop} {H0 F H F' H' : Hp} {v : V} {ls : List (List D)} (h : MatR M A0 H0 F H A v ls) (e : Ext A F H A' F' H') (sub : ∀ b, A2 b → A' b ∨ A b ∨ H b = none) : MatR M A0 H0 F' H' A2 v ls := by
  obtain ⟨D, ps, h1, h2, h3, h4, h5, h6, h7⟩ := h
  have hD := e.hh D _ h4 h6.at_
  have no : ∀ b u, H b = some u → ¬ A b → ¬ A2 b := fun b u hb nb z => by
    rcases sub b z with z | z | z
    · rcases e.aa b z with z | z
      · exact nb z
      · rw [hb] at z; cases z
    · exact nb z
    · rw [hb] at z; cases z
  have m := h6.ext e (hD.trans h6.at_.symm)
  refine ⟨D, ps, h1, h2, e.fn D _ h4 h6.at_ h3 trivial, no D _ h6.at_ h4, h5, ⟨m.nd, m.at_, fun p hp => ?_⟩, h7⟩
  obtain ⟨z1, z2, z3, z4⟩ := m.no p hp
  obtain ⟨y1, y2, y3, zs, y4, _⟩ := h6.no p hp
  exact ⟨z1, z2, no _ _ y4 y3, z4⟩
theorem ent_rel2 {M : Md} {σ0 σ : L2.St} {A0 : Addr → Prop} {H0 F1 H1 : Hp} {Γ1 : Ev} {v : V} {ls : List (List D)} {r g : Nat} (r1 : Rel M σ0 F1 H1 σ Γ1) (hv : MatR M A0 H0 F1 H1 (own σ Γ1) v ls) (hok : setOk (ghG g σ0.length ls Γ1) r = true) (hl : g + ls.length ≤ Γ1.length) :
    ∃ bs : List Addr, bs.length = ls.length ∧ bs.Nodup ∧ Rel M (σ0 ++ bs.map (fun b => some (V.ref b))) F1 H1 ((ghS g bs σ).set r (some v)) (entE r g σ0.length ls bs Γ1) ∧
      ∀ x, own ((ghS g bs σ).set r (some v)) (entE r g σ0.length ls bs Γ1) x → own σ Γ1 x ∨ A0 x ∨ H0 x = none := by
  obtain ⟨D, ps, rfl, rfl, fD, nD, aD, m, mA⟩ := hv
  rw [List.length_map] at hl
  have rm := rel_more (τ := (ps.map (·.1)).map (fun b => some (V.ref b))) r1
  obtain ⟨r2, o2⟩ := rel_ghosts ps g σ0.length σ Γ1 rm hl m.nd (fun p hp => by
    obtain ⟨z1, z2, z3, z4⟩ := m.no p hp
    exact ⟨z2, z3, z4⟩) fun i p hp => by
    rw [List.getElem?_append_right (by omega), List.getElem?_map, List.getElem?_map, Nat.add_sub_cancel_left, hp]
    rfl
  have nD2 : ¬ own (ghS g (ps.map (·.1)) σ) (ghG g σ0.length (ps.map (·.2)) Γ1) D := fun z => by
    rcases o2 D z with z | ⟨p, hp, z⟩
    · exact nD z
    · exact (m.no p hp).1 z.symm
  have av : AVR M A0 H0 F1 H1 (own (ghS g (ps.map (·.1)) σ) (ghG g σ0.length (ps.map (·.2)) Γ1)) (.ref D) (.own (.lst ((ps.map (·.1)).map Nv.D.opq))) := by
    refine ⟨D, rfl, fD, nD2, ⟨(ps.map (·.1)).map V.ref, ?_, reps_opq _⟩, aD⟩
    rw [m.at_, List.map_map]
    rfl
  have hs : setG (ghG g σ0.length (ps.map (·.2)) Γ1) r (.own (.lst ((ps.map (·.1)).map Nv.D.opq))) = some (entE r g σ0.length (ps.map (·.2)) (ps.map (·.1)) Γ1) := by
    unfold setG entE
    rw [if_pos hok]
    rfl
  obtain ⟨r3, o3⟩ := set_rel r2 hs av
  refine ⟨ps.map (·.1), by rw [List.length_map, List.length_map], m.nd, r3, fun x hx => ?_⟩
  rcases o3 x hx with z | z | z
  · rcases o2 x z with z | ⟨p, hp, rfl⟩
    · exact .inl z
    · exact .inr (mA p hp)
  · exact .inr (.inl z)
  · exact .inr (.inr z)
noncomputable def regP (i j g K0 n : Nat) (cr : Ev → Rs (List (List D))) (f2 : Ev → Rs AV) (f : Nat → List Addr → Ev → Out) : Ev → Out := fun Γ => (cr Γ).out fun ls Γ1 => (f2 Γ1).out fun av Γ2 => match setG Γ2 j av with
  | some Γ3 => regK i g K0 n f ls Γ3
  | none => .bad
theorem ds_regionP {X : Cx} {c : Cf} {i j g n K0 : Nat} {x y : Str} {a b : Expr} {px py pt pos : Pos} {kt k2 : Nat} {pt2 : Pos} {ss : List Stmt} {cr : Ev → Rs (List (List D))} {f2 : Ev → Rs AV} {f : Nat → List Addr → Ev → Out} (hK : K0 ≤ c.σ0.length) (hc : X.calm = true) (hN : X.N.Nodup) (ha : DM X c a cr) (hb : DO X c b f2)
    (hf : ∀ bs : List Addr, DSs X (c.more bs) ss (f c.σ0.length bs)) (hg : ∀ (i : Nat) (y : Str), g ≤ i → i < g + n → X.N[i]? = some y → ¬ Vis X.env.scope y)
    (hi : X.N[i]? = some x) (hj : X.N[j]? = some y) (hij : i ≠ j) (hx : X.env.scope.names.lookup x = some .local) (hy : X.env.scope.names.lookup y = some .local)
    (hw : swappedStores [.Tuple [.Name x px, .Name y py] kt pt] (.Tuple [a, b] k2 pt2) X.env = pure (some [x, y]))
    (hs : swapsWithSole [.Tuple [.Name x px, .Name y py] kt pt] (.Tuple [a, b] k2 pt2) pos.line X.env = pure false)
    (st : starEach [a, b] X.env = (false, eval a X.env) :: starEach [b] X.env) (st2 : starEach [b] X.env = (false, eval b X.env) :: starEach [] X.env) :
    DSs X c (.Assign [.Tuple [.Name x px, .Name y py] kt pt] (.Tuple [a, b] k2 pt2) pos :: ss) (regP i j g K0 n cr f2 f) := by
  have h1 := ps_par (pos := pos) hc hN hi hj hij hx hy (pa_cons ha (pa_cons hb pa_nil st2) st) hw hs
  refine ⟨fun pins s σ H De I ⟨F, Γ, r0, q⟩ => ?_⟩
  refine wpAny_execs_cons (thn (h1.run pins s σ H { De with nx := fun σ1 H1 => ∃ σ2 Γ2 F1 bs, σ2.length = σ1.length ∧ (∀ (i : Nat) (y : Str), X.N[i]? = some y → Vis X.env.scope y → σ2[i]? = σ1[i]?) ∧ Rel c.M (c.more bs).σ0 F1 H1 σ2 Γ2 ∧ PoS (c.more bs) σ2 F1 H1 Γ2 (f c.σ0.length bs Γ2) De } I ⟨F, Γ, r0, ?_⟩) fun fl s1 q2 => ?_)
  · refine (PoS.out (R := vrM c.M) q).imp fun v H1 ⟨F1, Γ1, ls, r1, e1, x1, q1⟩ => ⟨F1, Γ1, r1, ?_⟩
    refine (PoS.out2 (R := vrO c.M) q1 e1).imp fun w H2 ⟨F2, Γ2, av, r2, e2, x2, q2⟩ => ?_
    refine ⟨v, w, rfl, ?_⟩
    have x1 : MatR c.M (own σ Γ) H F1 H1 (own σ Γ1) v ls := x1
    split at q2
    · rename_i Γ3 h3
      obtain ⟨r3, o3⟩ := set_rel r2 h3 x2
      have x3 : MatR c.M (own σ Γ) H F2 H2 (own (σ.set j (some w)) Γ3) v ls := x1.keep2 e2 o3
      unfold regK at q2
      split at q2
      · rename_i hc
        obtain ⟨c1, c2, c3⟩ := hc
        split at q2
        · rename_i ho
          obtain ⟨bs, b1, b2, r4, o4⟩ := ent_rel2 r3 x3 (ghG_setOk c2.1 c2.2) c3
          have e4 := (e1.trans e2).own (A'' := own ((ghS g bs (σ.set j (some w))).set i (some v)) (entE i g c.σ0.length ls bs Γ3)) fun b hb => by
            rcases o4 b hb with z | z | z
            · rcases o3 b z with z | z
              · exact .inl z
              · exact .inr (e1.back z)
            · exact .inr (.inl z)
            · exact .inr (.inr z)
          have sp := ho.choose_spec c.σ0.length bs hK b1 b2
          rw [← sp] at q2
          refine ⟨(ghS g bs (σ.set j (some w))).set i (some v), _, F2, bs, by rw [List.length_set, List.length_set, List.length_set, ghS_len, List.length_set], fun l y' hy' vy => ?_, r4, q2.clr e4⟩
          have hi2 : i < σ.length := by rw [I.len]; exact (List.getElem?_eq_some_iff.mp hi).1
          have hj2 : j < σ.length := by rw [I.len]; exact (List.getElem?_eq_some_iff.mp hj).1
          by_cases z : i = l
          · subst z
            rw [List.getElem?_set_self (by rw [ghS_len, List.length_set]; exact hi2), List.getElem?_set_ne (Ne.symm hij), List.getElem?_set_self hi2]
          · rw [List.getElem?_set_ne z]
            have out : (ghS g bs (σ.set j (some w)))[l]? = (σ.set j (some w))[l]? := by
              refine ghS_out ?_
              by_cases z1 : g ≤ l
              · by_cases z2 : l < g + bs.length
                · exact absurd vy (hg l y' z1 (by omega) hy')
                · exact .inr (by omega)
              · exact .inl (by omega)
            rw [out]
            by_cases z3 : j = l
            · subst z3
              rw [List.getElem?_set_self hj2, List.getElem?_set_self (by rw [List.length_set]; exact hj2)]
            · rw [List.getElem?_set_ne z3, List.getElem?_set_ne z3, List.getElem?_set_ne z]
        · exact q2.elim
      · exact q2.elim
    · exact q2.elim
  · cases fl with
    | next =>
      obtain ⟨σ1, H1, I1, σ2, Γ2, F1, bs, l2, w2, r2, q3⟩ := q2
      exact (hf bs).run pins s1 σ2 H1 De (inv_ghost I1 l2 w2) ⟨F1, Γ2, r2, q3⟩
    | ret v => exact q2
    | brk => exact q2
    | cont => exact q2
end Nv
namespace Nv
open PySem PySem.Spec PyProof.Rows L2
theorem start_le {N : List Str} {vs : List V} {n : Nat} (h : n ≤ N.length) : n ≤ (L2.start N vs).length := by
  unfold L2.start
  rw [List.length_append, List.length_map, List.length_replicate]
  omega
end Nv
namespace Nv
open PySem PySem.Spec PyProof.Rows L2
theorem ghost_by {N : List Str} {sc : Scope} {g n : Nat} (h : ((List.range' g n).all fun i => match N[i]? with | some y => (sc.names.lookup y).isNone | none => true) = true) : ∀ (i : Nat) (y : Str), g ≤ i → i < g + n → N[i]? = some y → ¬ Vis sc y := fun i y h1 h2 h3 v => by
  have q := List.all_eq_true.mp h i (List.mem_range'_1.mpr ⟨h1, h2⟩)
  rw [h3] at q
  dsimp only at q
  rcases v with v | v | v <;> rw [v] at q <;> cases q
end Nv
namespace Nv
open PySem PySem.Spec PyProof.Rows L2
/-- the name, as data already or not yet -/
noncomputable def matN (r g K : Nat) (bs : List Addr) : Ev → Rs D := fun Γ => match Γ[r]? with
  | some (.dat d) => .ok d Γ
  | _ => matF r g K bs Γ
theorem de_matN {X : Cx} {c : Cf} {e : Expr} {bs : List Addr} {r : Nat} (g : Nat) (h : PE X e (tVar r)) : DE X (c.more bs) e (matN r g c.σ0.length bs) := by
  refine PE.of h fun σ H Q ⟨F, Γ, r0, q⟩ => ?_
  unfold matN at q
  split at q
  · rename_i d hd
    obtain ⟨v, h1, h2⟩ := r0.dat hd
    exact ⟨v, h1, q F H v r0 Ext.refl h2⟩
  · unfold matF at q
    split at q
    · rename_i ls Γ1 hf
      split at q
      · rename_i ds hr
        split at q
        · rename_i hd
          subst hd
          obtain ⟨F1, r1, e1, l1, p1⟩ := frzG_rel _ _ _ _ _ _ _ r0 hf
          obtain ⟨a, x1, x2, ⟨xs, x3, x4⟩, x5, x6⟩ := r1.own hr
          have hx := reps_opq_inv x4
          subst hx
          have rp : Rep c.M (upd F1 a (.lst (bs.map V.ref))) (.lst (ls.map Nv.D.lst)) (.ref a) := by
            refine rep_lst.mpr ⟨a, _, rfl, upd_same, reps_rows l1 fun i l b h1 h2 => ?_⟩
            obtain ⟨b', y1, y2⟩ := p1 i l h1
            have y1 : (c.σ0 ++ bs.map (fun b => some (V.ref b)))[c.σ0.length + i]? = some (some (.ref b')) := y1
            rw [List.getElem?_append_right (by omega), Nat.add_sub_cancel_left, List.getElem?_map, h2] at y1
            cases y1
            exact Rep.mono (Evl.Ex.new x2) y2
          obtain ⟨r2, e2⟩ := r1.nameD hr x1 x2 x3 rp
          exact ⟨.ref a, x1, q _ H (.ref a) r2 (e1.trans e2) rp⟩
        · exact q.elim
      · exact q.elim
    · exact q.elim
end Nv
-- N96
namespace Nv
open PySem PySem.Spec PyProof.Rows L2
section
variable {Γ : Ev} {i j r g K K0 n : Nat} {bs : List Addr} {fb fk : Ev → Rs OV} {fv fo : Ev → Rs D} {f2 : Ev → Rs AV} {cr : Ev → Rs (List (List D))} {f : Nat → List Addr → Ev → Out} {d : D}
def kPutB3 (i : Nat) (d : D) (ok : OV) (Γ : Ev) : Out := optS (putR i ok d Γ)
def kPutB2 (fk : Ev → Rs OV) (d : D) (ob : OV) (Γ : Ev) : Out := match ob with
  | .slot i => if isOwn Γ i = true then (fk Γ).out (kPutB3 i d) else .bad
  | _ => .bad
def kPutB1 (fb fk : Ev → Rs OV) (d : D) (Γ : Ev) : Out := (fb Γ).out (kPutB2 fk d)
theorem putB_ap : putB fb fk fv Γ = (fv Γ).out (kPutB1 fb fk) := rfl
theorem kPutB1_ap : kPutB1 fb fk d Γ = (fb Γ).out (kPutB2 fk d) := rfl
theorem kPutB2_ap : kPutB2 fk d (.slot i) Γ = if isOwn Γ i = true then (fk Γ).out (kPutB3 i d) else .bad := rfl
theorem kPutB3_ap {ok : OV} : kPutB3 i d ok Γ = optS (putR i ok d Γ) := rfl
noncomputable def kRowB (g K : Nat) (bs : List Addr) (od : D) (Γ1 : Ev) : Rs OV := match od with
  | .opq b => (match Γ1[g + bs.idxOf b]? with
    | some (.own (some k) _) => if k = K + bs.idxOf b then .ok (.slot (g + bs.idxOf b)) Γ1 else .bad
    | _ => .bad)
  | _ => .bad
theorem rowB_ap : rowB g K bs fo Γ = (fo Γ).bind (kRowB g K bs) := rfl
/-- the row of the m-th address is the m-th ghost -/
theorem kRowB_at {m : Nat} {b : Addr} {o : O} (hm : bs[m]? = some b) (nd : bs.Nodup) (hg : Γ[g + m]? = some (.own (some (K + m)) o)) : kRowB g K bs (.opq b) Γ = .ok (.slot (g + m)) Γ := by
  obtain ⟨hl, rfl⟩ := List.getElem?_eq_some_iff.mp hm
  have e : bs.idxOf bs[m] = m := nd.idxOf_getElem m hl
  unfold kRowB
  dsimp only
  rw [e, hg]
  dsimp only
  rw [if_pos rfl]
noncomputable def kRegP2 (i j g K0 n : Nat) (f : Nat → List Addr → Ev → Out) (ls : List (List D)) (av : AV) (Γ2 : Ev) : Out := match setG Γ2 j av with
  | some Γ3 => regK i g K0 n f ls Γ3
  | none => .bad
noncomputable def kRegP1 (i j g K0 n : Nat) (f2 : Ev → Rs AV) (f : Nat → List Addr → Ev → Out) (ls : List (List D)) (Γ1 : Ev) : Out := (f2 Γ1).out (kRegP2 i j g K0 n f ls)
theorem regP_ap : regP i j g K0 n cr f2 f Γ = (cr Γ).out (kRegP1 i j g K0 n f2 f) := rfl
theorem kRegP1_ap {ls : List (List D)} : kRegP1 i j g K0 n f2 f ls Γ = (f2 Γ).out (kRegP2 i j g K0 n f ls) := rfl
end
/-- a comprehension without tests whose items are new lists -/
theorem compML_a {ι : Type} {Γ0 Γ : Ev} {g : TgF} {f : Ev → Rs AV} (e : ι → D) (val : ι → List D) : ∀ (xs : List ι) (acc : List (List D)), (∀ x ∈ xs, ∃ Γ1, g (e x) Γ = some Γ1 ∧ ∃ Γ3, f Γ1 = .ok (.own (.lst (val x))) Γ3 ∧ anchor Γ0 Γ3 = Γ) → acc.length + xs.length ≤ sizeLine →
    compML Γ0 g yesT f (xs.map e) acc Γ = some (acc ++ xs.map val, Γ)
  | [], acc, _, _ => by
    rw [List.map_nil, List.map_nil, List.append_nil]
    rfl
  | x :: xs, acc, h, hl => by
    obtain ⟨Γ1, h1, Γ3, h2, h3⟩ := h x List.mem_cons_self
    rw [List.length_cons] at hl
    rw [List.map_cons]
    unfold compML
    rw [h1]
    dsimp only
    unfold yesT
    dsimp only
    rw [h2]
    dsimp only
    rw [if_pos (by omega), h3]
    have q := compML_a e val xs (acc ++ [val x]) (fun y hy => h y (List.mem_cons_of_mem _ hy)) (by rw [List.length_append, List.length_singleton]; omega)
    unfold yesT at q
    rw [q, List.append_assoc]
    rfl
end Nv
-- N97
namespace Nv
open PySem PySem.Spec PyProof.Rows L2
def ghL (K : Nat) : List (List D) → Ev
  | [] => []
  | l :: ls => .own (some K) (.lst l) :: ghL (K + 1) ls
theorem ghL_len : ∀ {K : Nat} {ls : List (List D)}, (ghL K ls).length = ls.length
  | _, [] => rfl
  | K, l :: ls => by unfold ghL; rw [List.length_cons, List.length_cons, ghL_len]
theorem ghL_get : ∀ {ls : List (List D)} {K i : Nat}, (ghL K ls)[i]? = ls[i]?.map fun l => .own (some (K + i)) (.lst l)
  | [], _, _ => rfl
  | l :: ls, K, 0 => rfl
  | l :: ls, K, i + 1 => by
    unfold ghL
    rw [List.getElem?_cons_succ, List.getElem?_cons_succ, ghL_get, show K + 1 + i = K + (i + 1) by omega]
theorem ghL_set : ∀ {ls : List (List D)} {K i : Nat} {l : List D}, (ghL K ls).set i (.own (some (K + i)) (.lst l)) = ghL K (ls.set i l)
  | [], _, _, _ => rfl
  | m :: ls, K, 0, l => rfl
  | m :: ls, K, i + 1, l => by
    unfold ghL
    rw [List.set_cons_succ, List.set_cons_succ, show K + (i + 1) = K + 1 + i by omega, ghL_set]
theorem ghG_app : ∀ (ls : List (List D)) (K : Nat) (pre mid : Ev), ls.length ≤ mid.length → ghG pre.length K ls (pre ++ mid) = pre ++ (ghL K ls ++ mid.drop ls.length)
  | [], K, pre, mid, _ => rfl
  | l :: ls, K, pre, [], h => by cases h
  | l :: ls, K, pre, m :: mid, h => by
    rw [List.length_cons, List.length_cons] at h
    have q := ghG_app ls (K + 1) (pre ++ [.own (some K) (.lst l)]) mid (by omega)
    rw [List.length_append, List.length_singleton] at q
    have e : (pre ++ m :: mid).set pre.length (.own (some K) (.lst l)) = pre ++ [.own (some K) (.lst l)] ++ mid := by
      rw [List.set_append_right _ _ (Nat.le_refl _), Nat.sub_self, List.append_assoc]
      rfl
    unfold ghG
    rw [e, q, List.append_assoc]
    rfl
theorem frz_app : ∀ (ls : List (List D)) (K : Nat) (pre rest : Ev), frzG pre.length K ls.length (pre ++ (ghL K ls ++ rest)) = some (ls, pre ++ (ls.map (fun l => Slot.dat (.lst l)) ++ rest))
  | [], K, pre, rest => rfl
  | l :: ls, K, pre, rest => by
    have e0 : (pre ++ (ghL K (l :: ls) ++ rest))[pre.length]? = some (.own (some K) (.lst l)) := by
      rw [List.getElem?_append_right (Nat.le_refl _), Nat.sub_self]
      rfl
    have e : (pre ++ (ghL K (l :: ls) ++ rest)).set pre.length (.dat (.lst l)) = pre ++ [.dat (.lst l)] ++ (ghL (K + 1) ls ++ rest) := by
      rw [List.set_append_right _ _ (Nat.le_refl _), Nat.sub_self, List.append_assoc]
      rfl
    have q := frz_app ls (K + 1) (pre ++ [.dat (.lst l)]) rest
    rw [List.length_append, List.length_singleton] at q
    rw [List.length_cons]
    unfold frzG
    rw [e0]
    dsimp only
    rw [if_pos rfl, e, q]
    show some (l :: ls, _) = _
    rw [List.append_assoc]
    rfl
theorem regS_ap {r g K0 n : Nat} {cr : Ev → Rs (List (List D))} {f : Nat → List Addr → Ev → Out} {Γ : Ev} : regS r g K0 n cr f Γ = (cr Γ).out (regK r g K0 n f) := rfl
section
variable {Γ Γ1 : Ev} {vs : List Nat} {src : Ev → Rs (List D × List Nat)} {g : TgF} {t : Ev → Rs Bool} {f : Ev → Rs AV} {p : List D × List Nat}
def kCompM2 (Γ1 : Ev) (vs : List Nat) : Option (List (List D) × Ev) → Rs (List (List D))
  | some (acc, Γ2) => .ok acc (unw Γ1 Γ2 vs)
  | none => .bad
def kCompM (vs : List Nat) (g : TgF) (t : Ev → Rs Bool) (f : Ev → Rs AV) (p : List D × List Nat) (Γ1 : Ev) : Rs (List (List D)) := kCompM2 Γ1 (vs ++ p.2) (compML (wipeG Γ1 (vs ++ p.2)) g t f p.1 [] (wipeG Γ1 (vs ++ p.2)))
theorem compM_ap : compM vs src g t f Γ = (src Γ).bind (kCompM vs g t f) := by
  unfold compM
  congr 1
theorem kCompM_ap : kCompM vs g t f p Γ1 = kCompM2 Γ1 (vs ++ p.2) (compML (wipeG Γ1 (vs ++ p.2)) g t f p.1 [] (wipeG Γ1 (vs ++ p.2))) := rfl
theorem kCompM2_ap {acc : List (List D)} {Γ2 : Ev} : kCompM2 Γ1 vs (some (acc, Γ2)) = .ok acc (unw Γ1 Γ2 vs) := rfl
end
/-- nothing own that is marked -/
def DU (G : Ev) : Prop := ∀ g ∈ G, ∀ k o, g ≠ .own (some k) o
theorem DU.drop {K : Nat} {G : Ev} (h : DU G) : G.map (dropK K) = G := by
  have e : ∀ g ∈ G, dropK K g = g := fun g hg => by
    cases g with
    | un => rfl
    | dat d => rfl
    | own t o =>
      cases t with
      | none => rfl
      | some k => exact absurd rfl (h _ hg k o)
  rw [List.map_congr_left e, List.map_id']
theorem anchor_slf : ∀ G : Ev, anchor G G = G
  | [] => rfl
  | .un :: G => by show Slot.un :: anchor G G = _; rw [anchor_slf G]
  | .dat d :: G => by show Slot.dat d :: anchor G G = _; rw [anchor_slf G]
  | .own t o :: G => by show Slot.own t o :: anchor G G = _; rw [anchor_slf G]
end Nv
-- the run
namespace K03
open PySem PySem.Spec PyProof.Rows L2 Nv
def top (i : Nat) : Stmt := PySem.Challenge.pw_nevermiss_k03_wrong_machines.main.body.getD i (.Pass ⟨0, 0, 0, 0⟩)
abbrev s__law_pen : Stmt := top 29
abbrev s__law_draw : Stmt := top 30
abbrev s__law_signs : Stmt := top 32
abbrev s__law_pick : Stmt := top 31
abbrev s__law_keys : Stmt := top 33
abbrev s__law_tables : Stmt := top 34
abbrev s_check_rows : Stmt := top 19
abbrev s_ascending : Stmt := top 14
abbrev s_keys_in : Stmt := top 20
abbrev s_Machine_init_v1 : Stmt := inClass (top 18) 0
abbrev s__law_told_v7 : Stmt := top 35
abbrev s__law_due_v9 : Stmt := top 36
abbrev s_law_v47 : Stmt := top 37
abbrev s_EBadMachine : Stmt := inClass (top 4) 0
abbrev s_ETooMany : Stmt := inClass (top 5) 0
abbrev RW : PySem.W.OpenRow := PySem.W.OpenLaw.row PySem.Challenge.rw_nevermiss_k03_wrong_machines
abbrev qv : Program := PySem.W.view RW.prog [37]
def names0 : List Str := [("_wall" : Str), ("__name__" : Str), ("MissError" : Str), ("BadText" : Str), ("BadMachine" : Str), ("TooMany" : Str), ("LETTERS" : Str), ("DIGITS" : Str), ("MOST_SIGNS" : Str), ("MOST_LETTERS" : Str), ("is_made_of" : Str), ("is_signs" : Str), ("is_key" : Str), ("ascending" : Str), ("MOST_STATES" : Str), ("MOST_KEYS" : Str), ("Machine" : Str), ("check_rows" : Str), ("keys_in" : Str), ("way_text" : Str)]
def names1 : List Str := [("machine_text" : Str), ("read_number" : Str), ("are_keys" : Str), ("read_way" : Str), ("read_state" : Str), ("read_machine" : Str), ("_law_pen" : Str), ("_law_draw" : Str), ("_law_pick" : Str), ("_law_signs" : Str), ("_law_keys" : Str), ("_law_tables" : Str), ("_law_told" : Str), ("_law_due" : Str)]
def names : List Str := names0 ++ names1
def fa0 (K : Fr) : List Bool := [fnB K (He.ga K ("_law_pen" : Str)) ("_law_pen" : Str),
  fnB K (He.ga K ("_law_draw" : Str)) ("_law_draw" : Str),
  fnB K (He.ga K ("_law_signs" : Str)) ("_law_signs" : Str),
  fnB K (He.ga K ("_law_pick" : Str)) ("_law_pick" : Str),
  fnB K (He.ga K ("_law_keys" : Str)) ("_law_keys" : Str),
  fnB K (He.ga K ("_law_tables" : Str)) ("_law_tables" : Str),
  fnB K (He.ga K ("check_rows" : Str)) ("check_rows" : Str),
  fnB K (He.ga K ("ascending" : Str)) ("ascending" : Str),
  fnB K (He.ga K ("keys_in" : Str)) ("keys_in" : Str),
  fnB K (He.ma K (He.ga K ("Machine" : Str)) ("__init__" : Str)) ("Machine.__init__" : Str),
  fnB K (He.ga K ("_law_told" : Str)) ("_law_told" : Str),
  fnB K (He.ga K ("_law_due" : Str)) ("_law_due" : Str),
  fnB K (He.ga K ("law" : Str)) ("law" : Str),
  fnE K (He.ma K (He.ga K ("BadMachine" : Str)) "__init__") (He.ga K ("BadMachine" : Str)) ("BadMachine.__init__" : Str) PySem.Challenge.rw_nevermiss_k03_wrong_machines.prog.main.file,
  exB K (He.ga K ("BadMachine" : Str)),
  clB K (He.ga K ("BadMachine" : Str)),
  fnE K (He.ma K (He.ga K ("TooMany" : Str)) "__init__") (He.ga K ("TooMany" : Str)) ("TooMany.__init__" : Str) PySem.Challenge.rw_nevermiss_k03_wrong_machines.prog.main.file,
  exB K (He.ga K ("TooMany" : Str)),
  clB K (He.ga K ("TooMany" : Str)),
  intB K ("MOST_KEYS" : Str) (12)]
def fa1 (K : Fr) : List Bool := [decide (PySem.W.nsIn K mainGlobals "Machine" = some (some (.ref (He.ga K ("Machine" : Str))))),
  decide (PySem.W.nsIn K mainGlobals "Edits" = some none),
  decide (PySem.W.nsIn K mainGlobals "Reading" = some none),
  decide (PySem.W.nsIn K mainGlobals "Rule" = some none),
  decide (PySem.W.nsIn K mainGlobals "Table" = some none),
  decide (PySem.W.nsIn K mainGlobals "enumerate" = some none),
  decide (PySem.W.nsIn K mainGlobals "int" = some none),
  decide (PySem.W.nsIn K mainGlobals "isinstance" = some none),
  decide (PySem.W.nsIn K mainGlobals "len" = some none),
  decide (PySem.W.nsIn K mainGlobals "list" = some none),
  decide (PySem.W.nsIn K mainGlobals "min" = some none),
  decide (PySem.W.nsIn K mainGlobals "range" = some none),
  decide (PySem.W.nsIn K mainGlobals "set" = some none),
  decide (PySem.W.nsIn K mainGlobals "sorted" = some none),
  decide (PySem.W.nsIn K mainGlobals "str" = some none),
  decide (PySem.W.nsIn K mainGlobals "sum" = some none),
  decide (PySem.W.nsIn K mainGlobals "tuple" = some none),
  decide (PySem.W.nsIn K mainGlobals "_law_pen" = some (some (.ref (He.ga K ("_law_pen" : Str))))),
  PySem.W.keepIn K (.ref (He.ga K ("_law_pen" : Str))),
  decide (PySem.W.nsIn K mainGlobals "_law_draw" = some (some (.ref (He.ga K ("_law_draw" : Str)))))]
def fa2 (K : Fr) : List Bool := [PySem.W.keepIn K (.ref (He.ga K ("_law_draw" : Str))),
  decide (PySem.W.nsIn K mainGlobals "_law_signs" = some (some (.ref (He.ga K ("_law_signs" : Str))))),
  PySem.W.keepIn K (.ref (He.ga K ("_law_signs" : Str))),
  decide (PySem.W.nsIn K mainGlobals "_law_pick" = some (some (.ref (He.ga K ("_law_pick" : Str))))),
  PySem.W.keepIn K (.ref (He.ga K ("_law_pick" : Str))),
  decide (PySem.W.nsIn K mainGlobals "_law_keys" = some (some (.ref (He.ga K ("_law_keys" : Str))))),
  PySem.W.keepIn K (.ref (He.ga K ("_law_keys" : Str))),
  decide (PySem.W.nsIn K mainGlobals "_law_tables" = some (some (.ref (He.ga K ("_law_tables" : Str))))),
  PySem.W.keepIn K (.ref (He.ga K ("_law_tables" : Str))),
  decide (PySem.W.nsIn K mainGlobals "check_rows" = some (some (.ref (He.ga K ("check_rows" : Str))))),
  PySem.W.keepIn K (.ref (He.ga K ("check_rows" : Str))),
  decide (PySem.W.nsIn K mainGlobals "ascending" = some (some (.ref (He.ga K ("ascending" : Str))))),
  PySem.W.keepIn K (.ref (He.ga K ("ascending" : Str))),
  decide (PySem.W.nsIn K mainGlobals "keys_in" = some (some (.ref (He.ga K ("keys_in" : Str))))),
  PySem.W.keepIn K (.ref (He.ga K ("keys_in" : Str))),
  decide (PySem.W.findIn K (.ref (He.ga K ("Machine" : Str))) "__init__" = some (some (.ref (He.ma K (He.ga K ("Machine" : Str)) ("__init__" : Str))))),
  PySem.W.isFn K (.ref (He.ma K (He.ga K ("Machine" : Str)) ("__init__" : Str))),
  PySem.W.keepIn K (.ref (He.ma K (He.ga K ("Machine" : Str)) ("__init__" : Str))),
  decide (PySem.W.nsIn K mainGlobals "_law_told" = some (some (.ref (He.ga K ("_law_told" : Str))))),
  PySem.W.keepIn K (.ref (He.ga K ("_law_told" : Str)))]
def fa3 (K : Fr) : List Bool := [decide (PySem.W.nsIn K mainGlobals "_law_due" = some (some (.ref (He.ga K ("_law_due" : Str))))),
  PySem.W.keepIn K (.ref (He.ga K ("_law_due" : Str))),
  decide (PySem.W.nsIn K mainGlobals "law" = some (some (.ref (He.ga K ("law" : Str))))),
  PySem.W.keepIn K (.ref (He.ga K ("law" : Str))),
  decide (PySem.W.nsIn K mainGlobals "BadMachine" = some (some (.ref (He.ga K ("BadMachine" : Str))))),
  decide (PySem.W.nsIn K mainGlobals "TooMany" = some (some (.ref (He.ga K ("TooMany" : Str))))),
  decide (PySem.W.nsIn K mainGlobals "MissError" = some (some (.ref (He.ga K ("MissError" : Str))))),
  decide (PySem.W.findIn K (.ref (He.ga K ("BadMachine" : Str))) "__setattr__" = some (some (.builtin "object.__setattr__"))),
  decide (PySem.W.findIn K (.ref (He.ga K ("BadMachine" : Str))) "__getattribute__" = some (some (.builtin "BaseException.__getattribute__"))),
  decide (PySem.W.findIn K (.ref (He.ga K ("BadMachine" : Str))) "__getattr__" = some none),
  decide (PySem.W.findIn K (.ref (He.ga K ("BadMachine" : Str))) "__class__" = some (some (.builtin "object.__class__"))),
  decide (PySem.W.findIn K (.ref (He.ga K ("BadMachine" : Str))) "__init__" = some (some (.ref (He.ma K (He.ga K ("BadMachine" : Str)) "__init__")))),
  decide (PySem.W.typeIn K (.ref (He.ga K ("BadMachine" : Str))) = some (.type "type")),
  PySem.W.keepIn K (.ref (He.ga K ("BadMachine" : Str))),
  PySem.W.hasDictIn K (He.ga K ("BadMachine" : Str)),
  decide (PySem.W.subIn K (.ref (He.ga K ("BadMachine" : Str))) (.type "BaseException") = some true),
  decide (PySem.W.subIn K (.ref (He.ga K ("BadMachine" : Str))) (.type "ValueError") = some true),
  decide (PySem.W.mroIn K (He.ga K ("BadMachine" : Str)) (.type "object") = some true),
  decide (PySem.W.mroIn K (He.ga K ("BadMachine" : Str)) (.ref (He.ga K ("BadMachine" : Str))) = some true),
  decide (PySem.W.typeIn K (.ref (He.ma K (He.ga K ("BadMachine" : Str)) "__init__")) = some (.type "function"))]
def fa4 (K : Fr) : List Bool := [decide (PySem.W.ks_superIn K (He.ga K ("BadMachine" : Str)) (He.ga K ("BadMachine" : Str)) "__init__" = some (some (.builtin "ValueError.__init__"))),
  decide (PySem.W.findIn K (.ref (He.ga K ("BadMachine" : Str))) "state" = some none),
  decide (PySem.W.findIn K (.ref (He.ga K ("BadMachine" : Str))) "place" = some none),
  decide (PySem.W.findIn K (.ref (He.ga K ("TooMany" : Str))) "__setattr__" = some (some (.builtin "object.__setattr__"))),
  decide (PySem.W.findIn K (.ref (He.ga K ("TooMany" : Str))) "__getattribute__" = some (some (.builtin "BaseException.__getattribute__"))),
  decide (PySem.W.findIn K (.ref (He.ga K ("TooMany" : Str))) "__getattr__" = some none),
  decide (PySem.W.findIn K (.ref (He.ga K ("TooMany" : Str))) "__class__" = some (some (.builtin "object.__class__"))),
  decide (PySem.W.findIn K (.ref (He.ga K ("TooMany" : Str))) "__init__" = some (some (.ref (He.ma K (He.ga K ("TooMany" : Str)) "__init__")))),
  decide (PySem.W.typeIn K (.ref (He.ga K ("TooMany" : Str))) = some (.type "type")),
  PySem.W.keepIn K (.ref (He.ga K ("TooMany" : Str))),
  PySem.W.hasDictIn K (He.ga K ("TooMany" : Str)),
  decide (PySem.W.subIn K (.ref (He.ga K ("TooMany" : Str))) (.type "BaseException") = some true),
  decide (PySem.W.subIn K (.ref (He.ga K ("TooMany" : Str))) (.type "ValueError") = some true),
  decide (PySem.W.mroIn K (He.ga K ("TooMany" : Str)) (.type "object") = some true),
  decide (PySem.W.mroIn K (He.ga K ("TooMany" : Str)) (.ref (He.ga K ("TooMany" : Str))) = some true),
  decide (PySem.W.typeIn K (.ref (He.ma K (He.ga K ("TooMany" : Str)) "__init__")) = some (.type "function")),
  decide (PySem.W.ks_superIn K (He.ga K ("TooMany" : Str)) (He.ga K ("TooMany" : Str)) "__init__" = some (some (.builtin "ValueError.__init__"))),
  decide (PySem.W.findIn K (.ref (He.ga K ("TooMany" : Str))) "what" = some none),
  decide (PySem.W.subIn K (.ref (He.ga K ("MissError" : Str))) (.type "BaseException") = some true),
  decide (PySem.W.typeIn K (.ref (He.ga K ("MissError" : Str))) = some (.type "type"))]
def fa5 (K : Fr) : List Bool := [PySem.W.hasDictIn K (He.ga K ("MissError" : Str)),
  decide (PySem.W.subIn K (.ref (He.ga K ("BadMachine" : Str))) (.ref (He.ga K ("BadMachine" : Str))) = some true),
  decide (PySem.W.subIn K (.ref (He.ga K ("BadMachine" : Str))) (.ref (He.ga K ("MissError" : Str))) = some true),
  decide (PySem.W.subIn K (.ref (He.ga K ("BadMachine" : Str))) (.ref (He.ga K ("TooMany" : Str))) = some false),
  decide (PySem.W.subIn K (.ref (He.ga K ("TooMany" : Str))) (.ref (He.ga K ("BadMachine" : Str))) = some false),
  decide (PySem.W.subIn K (.ref (He.ga K ("TooMany" : Str))) (.ref (He.ga K ("MissError" : Str))) = some true),
  decide (PySem.W.subIn K (.ref (He.ga K ("TooMany" : Str))) (.ref (He.ga K ("TooMany" : Str))) = some true),
  decide (PySem.W.nsIn K mainGlobals "super" = some none),
  decide (PySem.W.nsIn K cStatics "thirdparty.any" = some none),
  decide (PySem.W.specialIn K (.builtin "object.__class__") "__get__" = some (some (.builtin "getset_descriptor.__get__"))),
  decide (PySem.W.takesIn K (.builtin "object.__class__") = some true),
  PySem.W.plainGet K (He.ga K ("Machine" : Str)) Str.empty,
  PySem.W.hasDictIn K (He.ga K ("Machine" : Str)),
  PySem.W.plainOver K (He.ga K ("Machine" : Str)),
  decide (PySem.W.findIn K (.ref (He.ga K ("Machine" : Str))) "__setattr__" = some (some (.builtin "object.__setattr__"))),
  PySem.W.makesIn K (He.ga K ("Machine" : Str)),
  PySem.W.keepIn K (.ref (He.ga K ("Machine" : Str))),
  decide (PySem.W.findIn K (.ref (He.ga K ("Machine" : Str))) "all_keys" = some none),
  decide (PySem.W.findIn K (.ref (He.ga K ("Machine" : Str))) "ends" = some none),
  decide (PySem.W.findIn K (.ref (He.ga K ("Machine" : Str))) "rows" = some none)]
def fa6 (K : Fr) : List Bool := [decide (PySem.W.findIn K (.ref (He.ga K ("Machine" : Str))) "signs" = some none)]
def fa (K : Fr) : List Bool := [(fa0 K).all id, (fa1 K).all id, (fa2 K).all id, (fa3 K).all id, (fa4 K).all id, (fa5 K).all id, (fa6 K).all id]
def fn0 (K : Fr) : List FV := [fvAt K (He.ga K ("_law_pen" : Str)),
  fvAt K (He.ga K ("_law_draw" : Str)),
  fvAt K (He.ga K ("_law_signs" : Str)),
  fvAt K (He.ga K ("_law_pick" : Str)),
  fvAt K (He.ga K ("_law_keys" : Str)),
  fvAt K (He.ga K ("_law_tables" : Str)),
  fvAt K (He.ga K ("check_rows" : Str)),
  fvAt K (He.ga K ("ascending" : Str)),
  fvAt K (He.ga K ("keys_in" : Str)),
  fvAt K (He.ma K (He.ga K ("Machine" : Str)) ("__init__" : Str)),
  fvAt K (He.ga K ("_law_told" : Str)),
  fvAt K (He.ga K ("_law_due" : Str)),
  fvAt K (He.ga K ("law" : Str)),
  fvAt K (He.ma K (He.ga K ("BadMachine" : Str)) "__init__"),
  fvAt K (He.ma K (He.ga K ("TooMany" : Str)) "__init__")]
def fn (K : Fr) : List FV := fn0 K
def vl0 : List FV := [fvOf ("_law_pen" : Str) ("_law_pen" : Str) K03.s__law_pen,
  fvOf ("_law_draw" : Str) ("_law_draw" : Str) K03.s__law_draw,
  fvOf ("_law_signs" : Str) ("_law_signs" : Str) K03.s__law_signs,
  fvOf ("_law_pick" : Str) ("_law_pick" : Str) K03.s__law_pick,
  fvOf ("_law_keys" : Str) ("_law_keys" : Str) K03.s__law_keys,
  fvOf ("_law_tables" : Str) ("_law_tables" : Str) K03.s__law_tables,
  fvOf ("check_rows" : Str) ("check_rows" : Str) K03.s_check_rows,
  fvOf ("ascending" : Str) ("ascending" : Str) K03.s_ascending,
  fvOf ("keys_in" : Str) ("keys_in" : Str) K03.s_keys_in,
  fvOf ("__init__" : Str) ("Machine.__init__" : Str) K03.s_Machine_init_v1,
  fvOf ("_law_told" : Str) ("_law_told" : Str) K03.s__law_told_v7,
  fvOf ("_law_due" : Str) ("_law_due" : Str) K03.s__law_due_v9,
  fvOf ("law" : Str) ("law" : Str) K03.s_law_v47,
  fvOf ("__init__" : Str) ("BadMachine.__init__" : Str) K03.s_EBadMachine,
  fvOf ("__init__" : Str) ("TooMany.__init__" : Str) K03.s_ETooMany]
def vl : List FV := vl0
abbrev hk : PySem.W.Hook := hkF asM fa fn vl
theorem run (w : World) : HandSHeadRun.RunEq RW qv hk (obF asM fa fn) 20000 names w := by
  intro os
  kernel_rfl
end K03
section
open Nv PySem PySem.Spec PyProof.Rows L2
local macro_rules
  | `(tactic| simp_all! only [$a,*]) => `(tactic| simp -implicitDefEqProofs (disch := first | omega | assumption) only [↓Nv.seqS_ap, ↓Nv.nilS_ap, ↓Nv.setS_ap, ↓Nv.ifS_ap, ↓Nv.exprS_ap, ↓Nv.retS_ap, ↓Nv.retN_ap, ↓Nv.op2_ap, ↓Nv.op1_ap, ↓Nv.opA_ap, ↓Nv.datB_ap, ↓Nv.datO_ap, ↓Nv.cst_ap, ↓Nv.frzE_ap, ↓Nv.nilA_ap, ↓Nv.consA_ap, ↓Nv.tupE_ap, ↓Nv.lstE_ap, ↓Nv.tstE_ap, ↓Nv.andT_ap, ↓Nv.orT_ap, ↓Nv.notT_ap, ↓Nv.yesT_ap, ↓Nv.andO_ap, ↓Nv.orO_ap, ↓Nv.notO_ap, ↓Nv.ifO_ap, ↓Nv.sliceO_ap, ↓Nv.noPart_ap, ↓Nv.partO_ap, ↓Nv.putS_ap, ↓Nv.callO_ap, ↓Nv.asgS_ap, ↓Nv.par2_ap, ↓Nv.par3_ap, ↓Nv.newE_ap, ↓Nv.dispTO_ap, ↓Nv.get1O_ap, ↓Nv.get2O_ap, ↓Nv.mutL_ap, ↓Nv.fldS_ap, ↓Nv.joinO_ap, ↓Nv.fgS_ap, ↓Nv.forS_ap, ↓Nv.bare_ap, ↓Nv.seqI_ap, ↓Nv.enI_ap, ↓Nv.rngI1_ap, ↓Nv.rngI2_ap, ↓Nv.compO_ap, ↓Nv.makeO_ap, ↓Nv.methO_ap, ↓Nv.dispO_ap, ↓Nv.prNil_ap, ↓Nv.prCons_ap, ↓Nv.chainO_ap, ↓Nv.runF_ap, ↓Nv.kStar2_ap, ↓Nv.kStar_ap, ↓Nv.starA_ap, ↓Nv.kM2_ap, ↓Nv.kM1_ap, ↓Nv.mth1O_ap, ↓Nv.kFjs_ap, ↓Nv.fstrO_ap, ↓Nv.raiseS_ap2, ↓Nv.kRaise_ap, ↓Nv.tryS_ap, ↓Nv.compN_ap, ↓Nv.kCompN_ap, ↓Nv.compD_ap, ↓Nv.kCompD_ap, Nv.fjs_nil, Nv.fjs_cons, Nv.tryO_nx, Nv.tryO_rt, Nv.tryO_ex, Nv.endT_rt, Nv.endT_nx, Nv.starR, Nv.datsO, Nv.raiseO, Nv.goT, Nv.putN, Nv.offX, Nv.offN, Nv.isS, Nv.isL, Nv.gXf, Nv.dats_map, Nv.dats_map0, Nv.gStr_S, ↓Nv.kSet_ap, ↓Nv.kIf_ap, ↓Nv.kExpr_ap, ↓Nv.kRet_ap, ↓Nv.kOp2b_ap, ↓Nv.kOp2_ap, ↓Nv.kOp1_ap, ↓Nv.kOpA_ap, ↓Nv.kDatB_ap, ↓Nv.kDatO_ap, ↓Nv.kFrz_ap, ↓Nv.kConsb_ap, ↓Nv.kCons_ap, ↓Nv.kDisp_ap, ↓Nv.kTst_ap, ↓Nv.kAndT_ap, ↓Nv.kOrT_ap, ↓Nv.kNotT_ap, ↓Nv.kAndO_ap, ↓Nv.kOrO_ap, ↓Nv.kNotO_ap, ↓Nv.kIfO_ap, ↓Nv.kSl3_ap, ↓Nv.kSl2_ap, ↓Nv.kSl1_ap, ↓Nv.kPart_ap, ↓Nv.kPut2_ap, ↓Nv.kPut_ap, ↓Nv.kCall_ap, ↓Nv.kAsg_ap, ↓Nv.kPar2b_ap, ↓Nv.kPar2_ap, ↓Nv.kPar3c_ap, ↓Nv.kPar3b_ap, ↓Nv.kPar3_ap, ↓Nv.kDt2_ap, ↓Nv.kDt1_ap, ↓Nv.kGet1b_ap, ↓Nv.kGet1_ap, ↓Nv.kGet2c_ap, ↓Nv.kGet2b_ap, ↓Nv.kGet2_ap, ↓Nv.kMut_ap, ↓Nv.kFld_ap, ↓Nv.kJoin2_ap, ↓Nv.kJoin_ap, ↓Nv.kFor_ap, ↓Nv.kBare_ap, ↓Nv.kSeqI_ap, ↓Nv.kEnI_ap, ↓Nv.kRng1_ap, ↓Nv.kRng2_ap, ↓Nv.kComp_ap, ↓Nv.kMake_ap, ↓Nv.kMeth2_ap, ↓Nv.kMeth_ap, ↓Nv.kDct_ap, ↓Nv.kPr3_ap, ↓Nv.kPr2_ap, ↓Nv.kPr1_ap, ↓Nv.kCh3_ap, ↓Nv.kCh2_ap, ↓Nv.kCh1_ap, Nv.runFin_nx, Nv.runFin_rt, Nv.Out.seq_nx, Nv.Out.seq_rt, Nv.Out.seq_bk, Nv.Out.seq_ct, Nv.setG, Nv.setOk, Nv.slotOf, Nv.optS, Nv.Rs.out_ok, Nv.Rs.bind_ok, Nv.op2R, Nv.op1R, Nv.opR, Nv.gets, Nv.OV.get, Nv.look, Nv.slotB, Nv.nameE, Nv.mvE, Nv.AV.frz, Nv.avd_dat, Nv.avd_own, Nv.od_lst, Nv.od_dct, Nv.od_dtt, Nv.od_ins, Nv.Pn.od, Nv.chain_m, Nv.Rs.out_ex, Nv.Rs.bind_ex, Nv.Out.seq_ex, Nv.dispR, Nv.dats, Nv.g2, Nv.isOwn, Nv.putR, Nv.callR, Nv.argsOf, Nv.argOf, Nv.apartO, Nv.hasO, Nv.FR.back, Nv.backG, Nv.tTup, Nv.tsCons, Nv.tsNil, Nv.tName, Nv.getR, Nv.isDct, Nv.gA1, Nv.gA2, Nv.gI, Nv.okT, Nv.gSub, Nv.gMul, Nv.gMod, Nv.gFdv, Nv.gPow, Nv.gLt, Nv.gLe, Nv.gGt, Nv.gGe, Nv.gI2, Nv.gInt, Nv.gList, Nv.gTuple, Nv.len_lst, Nv.len_tup, Nv.len_fz, Nv.len_S, Nv.isLst, Nv.mutR, Nv.gApp, Nv.gPop0, Nv.gPop1, Nv.gRev, Nv.sl_lst, Nv.sl_fz, Nv.sl_tup, Nv.sl_S, Nv.fldR, Nv.S_length, Nv.cutS_S, Nv.S_app, Nv.chD_S, Nv.ix_S, Nv.gEq_S, Nv.gNe_S, Nv.gEq_int, Nv.gNe_int, Nv.gEq_bl, Nv.gNe_bl, Nv.gIn_S, Nv.gNin_S, Nv.cutL_nn, Nv.cutL_0n, Nv.cutL_n0, Nv.ofs_empty, Nv.sl0, Nv.sl1, Nv.sl2, Nv.sl3, Nv.sl4, Nv.sl5, Nv.sl6, Nv.sl7, Nv.sl8, Nv.add_int, Nv.add_str, Nv.add_lst, Nv.ix_lst, Nv.ix_tup, Nv.ix_fz, Nv.Pn.ix_left, Nv.Pn.ix_at, Nv.Pn.ix_cells, Nv.Pn.put_left, Nv.Pn.put_at, Nv.itemsOV, Nv.itemsOV2, Nv.it_lst, Nv.it_tup, Nv.it_fz, Nv.it_str, Nv.it2_lst, Nv.it2_tup, Nv.it2_fz, Nv.it2_str, Nv.it2_dct, List.getElem?_cons_zero, List.getElem?_cons_succ, List.set_cons_zero, List.set_cons_succ, List.length_cons, List.length_nil, List.length_map, Nv.tagA, Nv.tag1, Nv.outA, Nv.FR.mk, Option.map_some, Option.map_none, Option.bind_some, Option.bind_none, Nv.fgO_nx, Nv.fgO_bk, Nv.fgO_ct, Nv.fgO_rt, Nv.wipeG, Nv.unw, Nv.anchor, List.cons_append, List.nil_append, if_true, if_false, reduceIte, Bool.and_true, Bool.true_and, Bool.not_false, Bool.not_true, decide_true, decide_false, Bool.false_eq_true, decide_eq_true_eq, List.lookup_cons, Int.toNat_natCast, Nat.sub_self, Nat.reduceSub, Nat.reduceAdd, Nat.reduceEqDiff, List.replicate_succ, List.replicate_zero, Nv.sl_eq, Nv.nlt_t, Nv.nlt_f, Nv.nle_t, Nv.nle_f, Nv.neq_t, Nv.neq_f, Nv.ilt_t, Nv.ilt_f, Nv.ile_t, Nv.ile_f, Nv.ieq_t, Nv.ieq_f, Nv.rng_t, Nv.mul_l, Nv.mul_r, Nv.atI_n, Int.natCast_add, Int.cast_ofNat_Int, Int.toNat_natCast_add_one, List.length_append, Option.getD_some, decide_not, Bool.not_eq_true', decide_eq_false_iff_not, and_self, true_and, and_true, false_and, and_false, not_true_eq_false, not_false_eq_true, ne_eq, gt_iff_lt, ge_iff_le, List.map_cons, List.map_nil, List.map_append, Nat.add_sub_cancel_left, Int.zero_add, Int.add_zero, Nat.zero_add, List.getElem?_map, Nv.cut_ii, Nv.cut_0i, Nv.cut_i0, Nv.toNat_add, Int.reduceToNat, Nv.gStr_n, Nv.gFmt_S, Nv.gFmt_n, Nv.revS_S, Nv.gIs, Nv.gIsn, Nv.D.isN, Int.reducePow, Int.reduceAbs, Nat.reducePow, Nat.reduceLT, $a,*])
local macro_rules
  | `(tactic| simp_all?! only [$a,*]) => `(tactic| simp -implicitDefEqProofs only [↓Nv.seqS_ap, ↓Nv.nilS_ap, ↓Nv.setS_ap, ↓Nv.ifS_ap, ↓Nv.exprS_ap, ↓Nv.retS_ap, ↓Nv.retN_ap, ↓Nv.op2_ap, ↓Nv.op1_ap, ↓Nv.opA_ap, ↓Nv.datB_ap, ↓Nv.datO_ap, ↓Nv.cst_ap, ↓Nv.frzE_ap, ↓Nv.nilA_ap, ↓Nv.consA_ap, ↓Nv.tupE_ap, ↓Nv.lstE_ap, ↓Nv.tstE_ap, ↓Nv.andT_ap, ↓Nv.orT_ap, ↓Nv.notT_ap, ↓Nv.yesT_ap, ↓Nv.andO_ap, ↓Nv.orO_ap, ↓Nv.notO_ap, ↓Nv.ifO_ap, ↓Nv.sliceO_ap, ↓Nv.noPart_ap, ↓Nv.partO_ap, ↓Nv.putS_ap, ↓Nv.callO_ap, ↓Nv.asgS_ap, ↓Nv.par2_ap, ↓Nv.par3_ap, ↓Nv.newE_ap, ↓Nv.dispTO_ap, ↓Nv.get1O_ap, ↓Nv.get2O_ap, ↓Nv.mutL_ap, ↓Nv.fldS_ap, ↓Nv.joinO_ap, ↓Nv.fgS_ap, ↓Nv.forS_ap, ↓Nv.bare_ap, ↓Nv.seqI_ap, ↓Nv.enI_ap, ↓Nv.rngI1_ap, ↓Nv.rngI2_ap, ↓Nv.compO_ap, ↓Nv.makeO_ap, ↓Nv.methO_ap, ↓Nv.dispO_ap, ↓Nv.prNil_ap, ↓Nv.prCons_ap, ↓Nv.chainO_ap, ↓Nv.runF_ap, ↓Nv.kStar2_ap, ↓Nv.kStar_ap, ↓Nv.starA_ap, ↓Nv.kM2_ap, ↓Nv.kM1_ap, ↓Nv.mth1O_ap, ↓Nv.kFjs_ap, ↓Nv.fstrO_ap, ↓Nv.raiseS_ap2, ↓Nv.kRaise_ap, ↓Nv.tryS_ap, ↓Nv.compN_ap, ↓Nv.kCompN_ap, ↓Nv.compD_ap, ↓Nv.kCompD_ap, Nv.fjs_nil, Nv.fjs_cons, Nv.tryO_nx, Nv.tryO_rt, Nv.tryO_ex, Nv.endT_rt, Nv.endT_nx, Nv.starR, Nv.datsO, Nv.raiseO, Nv.goT, Nv.putN, Nv.offX, Nv.offN, Nv.isS, Nv.isL, Nv.gXf, Nv.dats_map, Nv.dats_map0, Nv.gStr_S, ↓Nv.kSet_ap, ↓Nv.kIf_ap, ↓Nv.kExpr_ap, ↓Nv.kRet_ap, ↓Nv.kOp2b_ap, ↓Nv.kOp2_ap, ↓Nv.kOp1_ap, ↓Nv.kOpA_ap, ↓Nv.kDatB_ap, ↓Nv.kDatO_ap, ↓Nv.kFrz_ap, ↓Nv.kConsb_ap, ↓Nv.kCons_ap, ↓Nv.kDisp_ap, ↓Nv.kTst_ap, ↓Nv.kAndT_ap, ↓Nv.kOrT_ap, ↓Nv.kNotT_ap, ↓Nv.kAndO_ap, ↓Nv.kOrO_ap, ↓Nv.kNotO_ap, ↓Nv.kIfO_ap, ↓Nv.kSl3_ap, ↓Nv.kSl2_ap, ↓Nv.kSl1_ap, ↓Nv.kPart_ap, ↓Nv.kPut2_ap, ↓Nv.kPut_ap, ↓Nv.kCall_ap, ↓Nv.kAsg_ap, ↓Nv.kPar2b_ap, ↓Nv.kPar2_ap, ↓Nv.kPar3c_ap, ↓Nv.kPar3b_ap, ↓Nv.kPar3_ap, ↓Nv.kDt2_ap, ↓Nv.kDt1_ap, ↓Nv.kGet1b_ap, ↓Nv.kGet1_ap, ↓Nv.kGet2c_ap, ↓Nv.kGet2b_ap, ↓Nv.kGet2_ap, ↓Nv.kMut_ap, ↓Nv.kFld_ap, ↓Nv.kJoin2_ap, ↓Nv.kJoin_ap, ↓Nv.kFor_ap, ↓Nv.kBare_ap, ↓Nv.kSeqI_ap, ↓Nv.kEnI_ap, ↓Nv.kRng1_ap, ↓Nv.kRng2_ap, ↓Nv.kComp_ap, ↓Nv.kMake_ap, ↓Nv.kMeth2_ap, ↓Nv.kMeth_ap, ↓Nv.kDct_ap, ↓Nv.kPr3_ap, ↓Nv.kPr2_ap, ↓Nv.kPr1_ap, ↓Nv.kCh3_ap, ↓Nv.kCh2_ap, ↓Nv.kCh1_ap, Nv.runFin_nx, Nv.runFin_rt, Nv.Out.seq_nx, Nv.Out.seq_rt, Nv.Out.seq_bk, Nv.Out.seq_ct, Nv.setG, Nv.setOk, Nv.slotOf, Nv.optS, Nv.Rs.out_ok, Nv.Rs.bind_ok, Nv.op2R, Nv.op1R, Nv.opR, Nv.gets, Nv.OV.get, Nv.look, Nv.slotB, Nv.nameE, Nv.mvE, Nv.AV.frz, Nv.avd_dat, Nv.avd_own, Nv.od_lst, Nv.od_dct, Nv.od_dtt, Nv.od_ins, Nv.Pn.od, Nv.chain_m, Nv.Rs.out_ex, Nv.Rs.bind_ex, Nv.Out.seq_ex, Nv.dispR, Nv.dats, Nv.g2, Nv.isOwn, Nv.putR, Nv.callR, Nv.argsOf, Nv.argOf, Nv.apartO, Nv.hasO, Nv.FR.back, Nv.backG, Nv.tTup, Nv.tsCons, Nv.tsNil, Nv.tName, Nv.getR, Nv.isDct, Nv.gA1, Nv.gA2, Nv.gI, Nv.okT, Nv.gSub, Nv.gMul, Nv.gMod, Nv.gFdv, Nv.gPow, Nv.gLt, Nv.gLe, Nv.gGt, Nv.gGe, Nv.gI2, Nv.gInt, Nv.gList, Nv.gTuple, Nv.len_lst, Nv.len_tup, Nv.len_fz, Nv.len_S, Nv.isLst, Nv.mutR, Nv.gApp, Nv.gPop0, Nv.gPop1, Nv.gRev, Nv.sl_lst, Nv.sl_fz, Nv.sl_tup, Nv.sl_S, Nv.fldR, Nv.S_length, Nv.cutS_S, Nv.S_app, Nv.chD_S, Nv.ix_S, Nv.gEq_S, Nv.gNe_S, Nv.gEq_int, Nv.gNe_int, Nv.gEq_bl, Nv.gNe_bl, Nv.gIn_S, Nv.gNin_S, Nv.cutL_nn, Nv.cutL_0n, Nv.cutL_n0, Nv.ofs_empty, Nv.sl0, Nv.sl1, Nv.sl2, Nv.sl3, Nv.sl4, Nv.sl5, Nv.sl6, Nv.sl7, Nv.sl8, Nv.add_int, Nv.add_str, Nv.add_lst, Nv.ix_lst, Nv.ix_tup, Nv.ix_fz, Nv.Pn.ix_left, Nv.Pn.ix_at, Nv.Pn.ix_cells, Nv.Pn.put_left, Nv.Pn.put_at, Nv.itemsOV, Nv.itemsOV2, Nv.it_lst, Nv.it_tup, Nv.it_fz, Nv.it_str, Nv.it2_lst, Nv.it2_tup, Nv.it2_fz, Nv.it2_str, Nv.it2_dct, List.getElem?_cons_zero, List.getElem?_cons_succ, List.set_cons_zero, List.set_cons_succ, List.length_cons, List.length_nil, List.length_map, Nv.tagA, Nv.tag1, Nv.outA, Nv.FR.mk, Option.map_some, Option.map_none, Option.bind_some, Option.bind_none, Nv.fgO_nx, Nv.fgO_bk, Nv.fgO_ct, Nv.fgO_rt, Nv.wipeG, Nv.unw, Nv.anchor, List.cons_append, List.nil_append, if_true, if_false, reduceIte, Bool.and_true, Bool.true_and, Bool.not_false, Bool.not_true, decide_true, decide_false, Bool.false_eq_true, decide_eq_true_eq, List.lookup_cons, Int.toNat_natCast, Nat.sub_self, Nat.reduceSub, Nat.reduceAdd, Nat.reduceEqDiff, List.replicate_succ, List.replicate_zero, $a,*])
-- D_k40
namespace Nv
open PySem PySem.Spec PyProof.Rows L2
noncomputable section
/-- _law_pen: 0 script -/
def d__law_pen : Ev → Out := (retS (dispO (prCons (cst (.str ("cells" : Str))) (frzE (opA (gA1 gList) (consA (datB (frzE (sliceO (slotB 0) noPart (partO (datO (cst (.int 63))))))) nilA))) (prCons (cst (.str ("at" : Str))) (cst (.int 0)) (prCons (cst (.str ("left" : Str))) (cst (.int 0)) prNil)))))
def f__law_pen : List AV → FR := shut (runF 1 d__law_pen)
theorem u__law_pen : f__law_pen = runF 1 d__law_pen := shut_eq _
/-- _law_draw: 0 pen 1 many 2 digit 3 at 4 cell 5 mixed -/
def d__law_draw : Ev → Out := (seqS (ifS (tstE (op2 gGe (datB (frzE (op2 gIx (slotB 0) (datB (cst (.str ("left" : Str))))))) (slotB 1)))
    (seqS (setS 2 (op2 gMod (datB (frzE (opA (gA1 gInt) (consA (datB (frzE (op2 gIx (slotB 0) (datB (cst (.str ("left" : Str))))))) nilA)))) (slotB 1)))
    (seqS (putS 0 (datB (cst (.str ("left" : Str)))) (frzE (op2 gFdv (datB (frzE (op2 gIx (slotB 0) (datB (cst (.str ("left" : Str))))))) (slotB 1))))
    (retS (mvE 2))))
    nilS)
    (seqS (setS 3 (op2 gIx (slotB 0) (datB (cst (.str ("at" : Str))))))
    (seqS (putS 0 (datB (cst (.str ("at" : Str)))) (frzE (op2 gAdd (slotB 3) (datB (cst (.int 1))))))
    (seqS (setS 4 (op2 gAdd (datB (frzE (op2 gMul (datB (cst (.int 41))) (slotB 3)))) (datB (cst (.int 23)))))
    (seqS (ifS (tstE (op2 gNe (datB (frzE (op2 gIx (slotB 0) (datB (cst (.str ("cells" : Str))))))) (datB (frzE (lstE nilA)))))
    (setS 4 (op2 gIx (datB (frzE (op2 gIx (slotB 0) (datB (cst (.str ("cells" : Str))))))) (datB (frzE (op2 gMod (datB (frzE (opA (gA1 gInt) (consA (slotB 3) nilA)))) (datB (frzE (opA (gA1 gLen) (consA (datB (frzE (op2 gIx (slotB 0) (datB (cst (.str ("cells" : Str))))))) nilA)))))))))
    nilS)
    (seqS (ifS (andT (tstE (op2 gLt (slotB 3) (datB (frzE (opA (gA1 gLen) (consA (datB (frzE (op2 gIx (slotB 0) (datB (cst (.str ("cells" : Str))))))) nilA)))))) (tstE (op2 gGe (slotB 4) (datB (frzE (op2 gPow (datB (cst (.int 10))) (datB (cst (.int 18)))))))))
    (seqS (putS 0 (datB (cst (.str ("left" : Str)))) (frzE (op2 gFdv (datB (frzE (op2 gSub (slotB 4) (datB (frzE (op2 gPow (datB (cst (.int 10))) (datB (cst (.int 18))))))))) (slotB 1))))
    (retS (op2 gMod (datB (frzE (opA (gA1 gInt) (consA (datB (frzE (op2 gSub (slotB 4) (datB (frzE (op2 gPow (datB (cst (.int 10))) (datB (cst (.int 18))))))))) nilA)))) (slotB 1))))
    nilS)
    (seqS (setS 5 (op2 gAdd (datB (frzE (op2 gAdd (datB (frzE (op2 gAdd (datB (frzE (op2 gMul (datB (frzE (op2 gMod (datB (frzE (opA (gA1 gInt) (consA (slotB 4) nilA)))) (datB (cst (.int 2147483587)))))) (datB (cst (.int 48271)))))) (datB (frzE (op2 gMul (datB (frzE (op2 gMul (datB (cst (.int 40014))) (slotB 3)))) (slotB 3))))))) (datB (frzE (op2 gMul (datB (cst (.int 59))) (slotB 3))))))) (datB (cst (.int 17)))))
    (seqS (setS 5 (op2 gMod (datB (frzE (opA (gA1 gInt) (consA (slotB 5) nilA)))) (datB (cst (.int 2147483629)))))
    (seqS (setS 5 (op2 gMod (datB (frzE (opA (gA1 gInt) (consA (datB (frzE (op2 gMul (slotB 5) (datB (frzE (op2 gAdd (slotB 5) (datB (cst (.int 69621))))))))) nilA)))) (datB (cst (.int 2147483549)))))
    (retS (op2 gMod (datB (frzE (opA (gA1 gInt) (consA (datB (frzE (op2 gFdv (datB (frzE (op2 gMod (datB (frzE (opA (gA1 gInt) (consA (datB (frzE (op2 gMul (slotB 5) (slotB 5)))) nilA)))) (datB (cst (.int 2147483579)))))) (datB (cst (.int 32)))))) nilA)))) (slotB 1))))))))))))
def f__law_draw : List AV → FR := shut (runF 6 d__law_draw)
theorem u__law_draw : f__law_draw = runF 6 d__law_draw := shut_eq _
/-- _law_signs: 0 pen 1 many 2 left 3 found 4 turn 5 at -/
abbrev b__law_signs_1 : Ev → Out := (fgS [4, 5] (seqS (setS 5 (callO 2 f__law_draw (consA (slotB 0) (consA (datB (frzE (opA (gA1 gLen) (consA (slotB 2) nilA)))) nilA))))
    (par2 3 2 (op2 gAdd (slotB 3) (datB (frzE (op2 gIx (slotB 2) (slotB 5))))) (op2 gAdd (datB (frzE (sliceO (slotB 2) noPart (partO (datO (nameE 5)))))) (datB (frzE (sliceO (slotB 2) (partO (op2 gAdd (slotB 5) (datB (cst (.int 1))))) noPart)))))))
def d__law_signs : Ev → Out := (seqS (asgS (tTup (tsCons (tName 2) (tsCons (tName 3) tsNil))) (frzE (tupE (consA (datB (cst (.str ("abcdefghijklmnopqrstuvwxyz" : Str)))) (consA (datB (cst (.str ("" : Str)))) nilA)))))
    (seqS (forS (tName 4) (bare (rngI1 (consA (slotB 1) nilA)))
    b__law_signs_1)
    (retS (mvE 3))))
def f__law_signs : List AV → FR := shut (runF 6 d__law_signs)
theorem u__law_signs : f__law_signs = runF 6 d__law_signs := shut_eq _
/-- _law_pick: 0 pen 1 items -/
def d__law_pick : Ev → Out := (retS (op2 gIx (slotB 1) (datB (frzE (callO 2 f__law_draw (consA (slotB 0) (consA (datB (frzE (opA (gA1 gLen) (consA (slotB 1) nilA)))) nilA)))))))
def f__law_pick : List AV → FR := shut (runF 2 d__law_pick)
theorem u__law_pick : f__law_pick = runF 2 d__law_pick := shut_eq _
end
end Nv
-- D_k44
namespace Nv
open PySem PySem.Spec PyProof.Rows L2
noncomputable section
end
end Nv
-- D_k07
namespace Nv
open PySem PySem.Spec PyProof.Rows L2
noncomputable section
/-- check_rows: 0 rows 1 state 2 row 3 place 4 way -/
abbrev b_check_rows_1 : Ev → Out := (fgS [3, 4] (ifS (notT (tstE (chainO gLe gLt (datB (cst (.int 0))) (datB (frzE (op2 gIx (slotB 4) (datB (cst (.int 0)))))) (datB (frzE (opA (gA1 gLen) (consA (slotB 0) nilA)))))))
    (raiseS ("BadMachine" : Str) [("state" : Str), ("place" : Str)] (consA (datB (nameE 1)) (consA (datB (nameE 3)) nilA)))
    nilS))
abbrev b_check_rows_2 : Ev → Out := (fgS [1, 2] (forS (tTup (tsCons (tName 3) (tsCons (tName 4) tsNil))) (bare (enI (consA (datB (nameE 2)) nilA)))
    b_check_rows_1))
def d_check_rows : Ev → Out := (forS (tTup (tsCons (tName 1) (tsCons (tName 2) tsNil))) (bare (enI (consA (datB (nameE 0)) nilA)))
    b_check_rows_2)
def f_check_rows : List AV → FR := shut (runF 5 d_check_rows)
theorem u_check_rows : f_check_rows = runF 5 d_check_rows := shut_eq _
/-- ascending: 0 words 1 word -/
abbrev q_ascending_1 : Ev → Rs D := (nameE 1)
abbrev q_ascending_2 : Ev → Rs D := (cst (.bl true))
abbrev q_ascending_3 : Ev → Rs D := (frzE (opA (gA1 gStr) (consA (slotB 1) nilA)))
def d_ascending : Ev → Out := (retS (opA (gA1 gTuple) (consA (datB (frzE (opA (gA1 gSort2) (consA (datB (frzE (compO [1] (seqI (datB (frzE (compD [1] (seqI (slotB 0)) (tName 1) yesT q_ascending_1 q_ascending_2)))) (tName 1) yesT q_ascending_3))) nilA)))) nilA)))
def f_ascending : List AV → FR := shut (runF 2 d_ascending)
theorem u_ascending : f_ascending = runF 2 d_ascending := shut_eq _
/-- keys_in: 0 rows 1 ends 2 given 3 row 4 goal 5 keys 6 key -/
abbrev q_keys_in_1 : Ev → Rs D := (nameE 6)
abbrev q_keys_in_2 : Ev → Rs D := (nameE 6)
def d_keys_in : Ev → Out := (seqS (setS 2 (compN [3, 4, 5, 6] (seqI (slotB 0)) (tName 3) yesT [⟨bare (seqI (slotB 3)), (tTup (tsCons (tName 4) (tsCons (tName 5) tsNil))), yesT, [4, 5, 6]⟩, ⟨bare (seqI (slotB 5)), (tName 6), yesT, [6]⟩] q_keys_in_1))
    (retS (callO 1 f_ascending (consA (datB (frzE (lstE (starA (slotB 2) (starA (datB (frzE (compN [5, 6] (seqI (slotB 1)) (tName 5) yesT [⟨bare (seqI (slotB 5)), (tName 6), yesT, [6]⟩] q_keys_in_2))) nilA))))) nilA))))
def f_keys_in : List AV → FR := shut (runF 7 d_keys_in)
theorem u_keys_in : f_keys_in = runF 7 d_keys_in := shut_eq _
/-- Machine.__init__: 0 self 1 signs 2 rows 3 ends 4 row 5 goal 6 keys -/
abbrev q_Machine_init_v1_1 : Ev → Rs D := (frzE (tupE (consA (datB (nameE 5)) (consA (datB (frzE (callO 1 f_ascending (consA (datB (nameE 6)) nilA)))) nilA))))
abbrev q_Machine_init_v1_2 : Ev → Rs D := (frzE (opA (gA1 gTuple) (consA (datB (frzE (compO [5, 6] (seqI (slotB 4)) (tTup (tsCons (tName 5) (tsCons (tName 6) tsNil))) yesT q_Machine_init_v1_1))) nilA)))
abbrev q_Machine_init_v1_3 : Ev → Rs D := (frzE (callO 1 f_ascending (consA (datB (nameE 6)) nilA)))
def d_Machine_init_v1 : Ev → Out := (seqS (exprS (callO 1 f_check_rows (consA (datB (nameE 2)) nilA)))
    (seqS (fldS 0 ("signs" : Str) [("Machine" : Str), ("Rule" : Str), ("Edits" : Str), ("Table" : Str)] (nameE 1))
    (seqS (fldS 0 ("rows" : Str) [("Machine" : Str), ("Edits" : Str), ("Table" : Str), ("Reading" : Str)] (frzE (opA (gA1 gTuple) (consA (datB (frzE (compO [4] (seqI (slotB 2)) (tName 4) yesT q_Machine_init_v1_2))) nilA))))
    (seqS (fldS 0 ("ends" : Str) [("Machine" : Str)] (frzE (opA (gA1 gTuple) (consA (datB (frzE (compO [6] (seqI (slotB 3)) (tName 6) yesT q_Machine_init_v1_3))) nilA))))
    (seqS (fldS 0 ("all_keys" : Str) [("Machine" : Str), ("Rule" : Str)] (frzE (callO 2 f_keys_in (consA (datB (frzE (op1 (gFld ("rows" : Str) [("Machine" : Str), ("Edits" : Str), ("Table" : Str), ("Reading" : Str)]) (slotB 0)))) (consA (datB (frzE (op1 (gFld ("ends" : Str) [("Machine" : Str)]) (slotB 0)))) nilA)))))
    (ifS (tstE (op2 gGt (datB (frzE (opA (gA1 gLen) (consA (datB (frzE (op1 (gFld ("all_keys" : Str) [("Machine" : Str), ("Rule" : Str)]) (slotB 0)))) nilA)))) (datB (cst (.int 12)))))
    (raiseS ("TooMany" : Str) [("what" : Str)] (consA (datB (cst (.str ("keys" : Str)))) nilA))
    nilS))))))
def f_Machine_init_v1 : List AV → FR := shut (runF 7 d_Machine_init_v1)
theorem u_Machine_init_v1 : f_Machine_init_v1 = runF 7 d_Machine_init_v1 := shut_eq _
end
end Nv
-- D_k09
namespace Nv
open PySem PySem.Spec PyProof.Rows L2
noncomputable section
/-- _law_keys: 0 pen 1 words 2 many 3 k -/
abbrev q__law_keys_1 : Ev → Rs D := (frzE (callO 2 f__law_pick (consA (slotB 0) (consA (datB (nameE 1)) nilA))))
def d__law_keys : Ev → Out := (seqS (setS 2 (callO 2 f__law_pick (consA (slotB 0) (consA (datB (frzE (lstE (consA (datB (cst (.int 0))) (consA (datB (cst (.int 0))) (consA (datB (cst (.int 0))) (consA (datB (cst (.int 1))) (consA (datB (cst (.int 1))) (consA (datB (cst (.int 2))) nilA))))))))) nilA))))
    (retS (op1 gSset (datB (frzE (compO [3] (rngI1 (consA (slotB 2) nilA)) (tName 3) yesT q__law_keys_1))))))
def f__law_keys : List AV → FR := shut (runF 4 d__law_keys)
theorem u__law_keys : f__law_keys = runF 4 d__law_keys := shut_eq _
/-- _law_tables: 0 pen 1 signs 2 most 3 words 4 many 5 rows 6 state 7 sign -/
abbrev q__law_tables_1 : Ev → Rs D := (frzE (tupE (consA (datB (frzE (callO 2 f__law_draw (consA (slotB 0) (consA (datB (nameE 4)) nilA))))) (consA (datB (frzE (callO 2 f__law_keys (consA (slotB 0) (consA (datB (nameE 3)) nilA))))) nilA))))
abbrev q__law_tables_2 : Ev → Rs D := (frzE (compO [7] (seqI (slotB 1)) (tName 7) yesT q__law_tables_1))
abbrev q__law_tables_3 : Ev → Rs D := (frzE (callO 2 f__law_keys (consA (slotB 0) (consA (datB (nameE 3)) nilA))))
def d__law_tables : Ev → Out := (seqS (setS 4 (op2 gAdd (datB (cst (.int 1))) (datB (frzE (callO 2 f__law_draw (consA (slotB 0) (consA (datB (nameE 2)) nilA)))))))
    (seqS (setS 5 (compO [6] (rngI1 (consA (slotB 4) nilA)) (tName 6) yesT q__law_tables_2))
    (retS (tupE (consA (datB (nameE 5)) (consA (datB (frzE (compO [6] (rngI1 (consA (slotB 4) nilA)) (tName 6) yesT q__law_tables_3))) nilA))))))
def f__law_tables : List AV → FR := shut (runF 8 d__law_tables)
theorem u__law_tables : f__law_tables = runF 8 d__law_tables := shut_eq _
end
end Nv
-- D_k45
namespace Nv
open PySem PySem.Spec PyProof.Rows L2
noncomputable section
end
end Nv
-- D_k08
namespace Nv
open PySem PySem.Spec PyProof.Rows L2
noncomputable section
end
end Nv
-- D_k10
namespace Nv
open PySem PySem.Spec PyProof.Rows L2
noncomputable section
end
end Nv
-- D_k05
namespace Nv
open PySem PySem.Spec PyProof.Rows L2
noncomputable section
end
end Nv
-- D_k03
namespace Nv
open PySem PySem.Spec PyProof.Rows L2
noncomputable section
/-- _law_told: 0 signs 1 tables 2 made 3 e -/
abbrev b__law_told_v7_1 : Ev → Out := (setS 2 (makeO ("Machine" : Str) 4 f_Machine_init_v1 (consA (datB (nameE 0)) (consA (datB (frzE (op2 gIx (slotB 1) (datB (cst (.int 0)))))) (consA (datB (frzE (op2 gIx (slotB 1) (datB (cst (.int 1)))))) nilA)))))
abbrev h__law_told_v7_1 : Ev → Out := (retS (tupE (consA (datB (cst (.str ("machine" : Str)))) (consA (datB (frzE (op1 (gXf [(("BadMachine" : Str), [("state" : Str), ("place" : Str)]), (("TooMany" : Str), [("what" : Str)])] ("state" : Str)) (slotB 3)))) (consA (datB (frzE (op1 (gXf [(("BadMachine" : Str), [("state" : Str), ("place" : Str)]), (("TooMany" : Str), [("what" : Str)])] ("place" : Str)) (slotB 3)))) (consA (datB (frzE (opA (gA2 (gXi [(("BadMachine" : Str), [("state" : Str), ("place" : Str)]), (("TooMany" : Str), [("what" : Str)])] [("MissError" : Str)])) (consA (slotB 3) (consA (datB (cst (.cls ("MissError" : Str)))) nilA))))) nilA))))))
abbrev h__law_told_v7_2 : Ev → Out := (retS (tupE (consA (datB (cst (.str ("many" : Str)))) (consA (datB (frzE (op1 (gXf [(("BadMachine" : Str), [("state" : Str), ("place" : Str)]), (("TooMany" : Str), [("what" : Str)])] ("what" : Str)) (slotB 3)))) nilA))))
def d__law_told_v7 : Ev → Out := (seqS (tryS [("BadMachine" : Str), ("TooMany" : Str)] b__law_told_v7_1 [(("BadMachine" : Str), some 3, h__law_told_v7_1), (("TooMany" : Str), some 3, h__law_told_v7_2)])
    (retS (opA (gA1 gLen) (consA (datB (frzE (op1 (gFld ("all_keys" : Str) [("Machine" : Str), ("Rule" : Str)]) (slotB 2)))) nilA))))
def f__law_told_v7 : List AV → FR := shut (runF 4 d__law_told_v7)
theorem u__law_told_v7 : f__law_told_v7 = runF 4 d__law_told_v7 := shut_eq _
/-- _law_due: 0 tables 1 rows 2 ends 3 found 4 keys 5 state 6 place -/
abbrev q__law_due_v9_1 : Ev → Rs D := (frzE (opA (gA1 gList) (consA (slotB 4) nilA)))
abbrev b__law_due_v9_1 : Ev → Out := (fgS [6] (seqS (ifS (notT (tstE (chainO gLe gLt (datB (cst (.int 0))) (datB (frzE (op2 gIx (datB (frzE (op2 gIx (datB (frzE (op2 gIx (slotB 1) (slotB 5)))) (slotB 6)))) (datB (cst (.int 0)))))) (datB (frzE (opA (gA1 gLen) (consA (slotB 1) nilA)))))))
    (retS (tupE (consA (datB (cst (.str ("machine" : Str)))) (consA (datB (nameE 5)) (consA (datB (nameE 6)) (consA (datB (cst (.bl true))) nilA))))))
    nilS)
    (setS 3 (op2 gAdd (slotB 3) (datB (frzE (opA (gA1 gList) (consA (datB (frzE (op2 gIx (datB (frzE (op2 gIx (datB (frzE (op2 gIx (slotB 1) (slotB 5)))) (slotB 6)))) (datB (cst (.int 1)))))) nilA))))))))
abbrev b__law_due_v9_2 : Ev → Out := (fgS [5] (forS (tName 6) (bare (rngI1 (consA (datB (frzE (opA (gA1 gLen) (consA (datB (frzE (op2 gIx (slotB 1) (slotB 5)))) nilA)))) nilA)))
    b__law_due_v9_1))
def d__law_due_v9 : Ev → Out := (seqS (asgS (tTup (tsCons (tName 1) (tsCons (tName 2) tsNil))) (nameE 0))
    (seqS (setS 3 (opA (gA2 gSumL) (consA (datB (frzE (compO [4] (seqI (slotB 2)) (tName 4) yesT q__law_due_v9_1))) (consA (datB (frzE (lstE nilA))) nilA))))
    (seqS (forS (tName 5) (bare (rngI1 (consA (datB (frzE (opA (gA1 gLen) (consA (slotB 1) nilA)))) nilA)))
    b__law_due_v9_2)
    (retS (ifO (tstE (op2 gGt (datB (frzE (op1 gLset (slotB 3)))) (datB (cst (.int 12))))) (tupE (consA (datB (cst (.str ("many" : Str)))) (consA (datB (cst (.str ("keys" : Str)))) nilA))) (op1 gLset (slotB 3)))))))
def f__law_due_v9 : List AV → FR := shut (runF 7 d__law_due_v9)
theorem u__law_due_v9 : f__law_due_v9 = runF 7 d__law_due_v9 := shut_eq _
/-- law: 0 script 1 pen 2 turn 3 signs 4 words 5 k 6 tables 7 rows 8 ends 9 row 10 bent 11 state 12 place 13 wrong 14 #0 15 #1 16 #2 17 #3 18 #4 19 #5 20 #6 21 #7 22 #8 23 #9 24 #10 25 #11 26 #12 27 #13 28 #14 29 #15 -/
abbrev q_law_v47_1 : Ev → Rs D := (frzE (op2 gAdd (datB (cst (.str ("k" : Str)))) (datB (frzE (opA (gA1 gStr) (consA (slotB 5) nilA))))))
abbrev q_law_v47_2 : Ev → Rs AV := (opA (gA1 gList) (consA (slotB 9) nilA))
abbrev b_law_v47_1 : Nat → List Addr → Ev → Out := fun (K : Nat) (bs : List Addr) => (fgS [10, 11, 12, 13] (seqS (par2 11 12 (callO 2 f__law_draw (consA (slotB 1) (consA (datB (frzE (opA (gA1 gLen) (consA (slotB 7) nilA)))) nilA))) (callO 2 f__law_draw (consA (slotB 1) (consA (datB (frzE (opA (gA1 gLen) (consA (slotB 3) nilA)))) nilA))))
    (seqS (setS 13 (lstE (consA (datB (frzE (op1 gNeg (datB (cst (.int 1)))))) (consA (datB (frzE (opA (gA1 gLen) (consA (slotB 7) nilA)))) (consA (datB (frzE (op2 gAdd (datB (frzE (opA (gA1 gLen) (consA (slotB 7) nilA)))) (datB (cst (.int 1)))))) (consA (datB (frzE (op2 gSub (datB (cst (.int 0))) (datB (frzE (opA (gA1 gLen) (consA (slotB 7) nilA))))))) (consA (datB (frzE (op2 gPow (datB (cst (.int 10))) (datB (cst (.int 30)))))) nilA)))))))
    (putB (rowB 14 K bs (frzE (op2 gIx (slotB 7) (slotB 11)))) (slotB 12) (frzE (tupE (consA (datB (frzE (callO 2 f__law_pick (consA (slotB 1) (consA (datB (nameE 13)) nilA))))) (consA (datB (frzE (op2 gIx (datB (frzE (op2 gIx (rowB 14 K bs (frzE (op2 gIx (slotB 7) (slotB 11)))) (slotB 12)))) (datB (cst (.int 1)))))) nilA))))))))
abbrev r_law_v47_1 : Nat → List Addr → Ev → Out := fun (K : Nat) (bs : List Addr) => (seqS (ifS (tstE (op2 gEq (datB (frzE (callO 2 f__law_draw (consA (slotB 1) (consA (datB (cst (.int 2))) nilA))))) (datB (cst (.int 0)))))
    (putS 8 (datB (frzE (callO 2 f__law_draw (consA (slotB 1) (consA (datB (frzE (opA (gA1 gLen) (consA (slotB 8) nilA)))) nilA))))) (frzE (sliceO (slotB 4) noPart (partO (callO 2 f__law_pick (consA (slotB 1) (consA (datB (frzE (lstE (consA (datB (cst (.int 11))) (consA (datB (cst (.int 12))) (consA (datB (cst (.int 13))) nilA)))))) nilA)))))))
    nilS)
    (seqS (forS (tName 10) (bare (rngI1 (consA (datB (frzE (callO 2 f__law_draw (consA (slotB 1) (consA (datB (cst (.int 4))) nilA))))) nilA)))
    (b_law_v47_1 K bs))
    (seqS (ifS (tstE (op2 gNe (datB (frzE (callO 2 f__law_told_v7 (consA (datB (nameE 3)) (consA (datB (frzE (tupE (consA (datB (matN 7 14 K bs)) (consA (datB (nameE 8)) nilA))))) nilA))))) (datB (frzE (callO 1 f__law_due_v9 (consA (datB (frzE (tupE (consA (datB (matN 7 14 K bs)) (consA (datB (nameE 8)) nilA))))) nilA))))))
    (retS (datO (cst (.bl false))))
    nilS)
    (ifS (tstE (op2 gNe (datB (frzE (callO 2 f__law_told_v7 (consA (datB (nameE 3)) (consA (datB (nameE 6)) nilA))))) (datB (frzE (callO 1 f__law_due_v9 (consA (datB (nameE 6)) nilA))))))
    (retS (datO (cst (.bl false))))
    nilS))))
abbrev b_law_v47_2 : Ev → Out := (fgS [2, 3, 4, 6, 7, 8] (seqS (par2 3 4 (callO 2 f__law_signs (consA (slotB 1) (consA (datB (frzE (op2 gAdd (datB (cst (.int 1))) (datB (frzE (callO 2 f__law_draw (consA (slotB 1) (consA (datB (cst (.int 4))) nilA)))))))) nilA))) (compO [5] (rngI1 (consA (datB (cst (.int 13))) nilA)) (tName 5) yesT q_law_v47_1))
    (seqS (setS 6 (callO 4 f__law_tables (consA (slotB 1) (consA (datB (nameE 3)) (consA (datB (cst (.int 16))) (consA (datB (frzE (sliceO (slotB 4) noPart (partO (callO 2 f__law_pick (consA (slotB 1) (consA (datB (frzE (lstE (consA (datB (cst (.int 3))) (consA (datB (cst (.int 12))) (consA (datB (cst (.int 13))) nilA)))))) nilA))))))) nilA))))))
    (regP 7 8 14 30 16 (compM [9] (seqI (datB (frzE (op2 gIx (slotB 6) (datB (cst (.int 0))))))) (tName 9) yesT q_law_v47_2) (opA (gA1 gList) (consA (datB (frzE (op2 gIx (slotB 6) (datB (cst (.int 1)))))) nilA)) r_law_v47_1))))
def d_law_v47 : Ev → Out := (seqS (setS 1 (callO 1 f__law_pen (consA (datB (nameE 0)) nilA)))
    (seqS (forS (tName 2) (bare (rngI1 (consA (datB (frzE (op2 gAdd (datB (cst (.int 6))) (datB (frzE (opA (gA2 (gI2 min2)) (consA (datB (cst (.int 8))) (consA (datB (frzE (opA (gA1 gLen) (consA (slotB 0) nilA)))) nilA)))))))) nilA)))
    b_law_v47_2)
    (retS (datO (cst (.bl true))))))
def f_law_v47 : List AV → FR := shut (runF 30 d_law_v47)
theorem u_law_v47 : f_law_v47 = runF 30 d_law_v47 := shut_eq _
end
end Nv
-- P_k03
namespace K03
open PySem PySem.Spec PyProof.Rows L2 Nv
theorem sc__law_pen : FnScope ["script"] ["script"] (defScope s__law_pen) := ⟨rfl, rfl, rfl, by decide +kernel, rfl, by decide +kernel, by decide +kernel⟩
theorem sc__law_draw : FnScope ["pen", "many", "digit", "at", "cell", "mixed"] ["pen", "many"] (defScope s__law_draw) := ⟨rfl, rfl, rfl, by decide +kernel, rfl, by decide +kernel, by decide +kernel⟩
theorem sc__law_signs : FnScope ["pen", "many", "left", "found", "turn", "at"] ["pen", "many"] (defScope s__law_signs) := ⟨rfl, rfl, rfl, by decide +kernel, rfl, by decide +kernel, by decide +kernel⟩
theorem sc__law_pick : FnScope ["pen", "items"] ["pen", "items"] (defScope s__law_pick) := ⟨rfl, rfl, rfl, by decide +kernel, rfl, by decide +kernel, by decide +kernel⟩
theorem sc__law_keys : FnScope ["pen", "words", "many", "k"] ["pen", "words"] (defScope s__law_keys) := ⟨rfl, rfl, rfl, by decide +kernel, rfl, by decide +kernel, by decide +kernel⟩
theorem sc__law_tables : FnScope ["pen", "signs", "most", "words", "many", "rows", "state", "sign"] ["pen", "signs", "most", "words"] (defScope s__law_tables) := ⟨rfl, rfl, rfl, by decide +kernel, rfl, by decide +kernel, by decide +kernel⟩
theorem sc_check_rows : FnScope ["rows", "state", "row", "place", "way"] ["rows"] (defScope s_check_rows) := ⟨rfl, rfl, rfl, by decide +kernel, rfl, by decide +kernel, by decide +kernel⟩
theorem sc_ascending : FnScope ["words", "word"] ["words"] (defScope s_ascending) := ⟨rfl, rfl, rfl, by decide +kernel, rfl, by decide +kernel, by decide +kernel⟩
theorem sc_keys_in : FnScope ["rows", "ends", "given", "row", "goal", "keys", "key"] ["rows", "ends"] (defScope s_keys_in) := ⟨rfl, rfl, rfl, by decide +kernel, rfl, by decide +kernel, by decide +kernel⟩
theorem sc_Machine_init_v1 : FnScope ["self", "signs", "rows", "ends", "row", "goal", "keys"] ["self", "signs", "rows", "ends"] (defScope s_Machine_init_v1) := ⟨rfl, rfl, rfl, by decide +kernel, rfl, by decide +kernel, by decide +kernel⟩
theorem sc__law_told_v7 : FnScope ["signs", "tables", "made", "e"] ["signs", "tables"] (defScope s__law_told_v7) := ⟨rfl, rfl, rfl, by decide +kernel, rfl, by decide +kernel, by decide +kernel⟩
theorem sc__law_due_v9 : FnScope ["tables", "rows", "ends", "found", "keys", "state", "place"] ["tables"] (defScope s__law_due_v9) := ⟨rfl, rfl, rfl, by decide +kernel, rfl, by decide +kernel, by decide +kernel⟩
theorem sc_law_v47 : FnScope ["script", "pen", "turn", "signs", "words", "k", "tables", "rows", "ends", "row", "bent", "state", "place", "wrong", "#0", "#1", "#2", "#3", "#4", "#5", "#6", "#7", "#8", "#9", "#10", "#11", "#12", "#13", "#14", "#15"] ["script"] (defScope s_law_v47) := ⟨rfl, rfl, rfl, by decide +kernel, rfl, by decide +kernel, by decide +kernel⟩
structure Txt (K : PySem.W.Frag) (mg : Str → Option Value) : Prop where
  b_enumerate : mg "enumerate" = none
  b_int : mg "int" = none
  b_isinstance : mg "isinstance" = none
  b_len : mg "len" = none
  b_list : mg "list" = none
  b_min : mg "min" = none
  b_range : mg "range" = none
  b_set : mg "set" = none
  b_sorted : mg "sorted" = none
  b_str : mg "str" = none
  b_sum : mg "sum" = none
  b_tuple : mg "tuple" = none
  g_MOST_KEYS : ∃ u, mg "MOST_KEYS" = some u ∧ RelV (.int 12) u
  f_all_keys : FldOk ⟨K, mg⟩ ("all_keys" : Str) [("Machine" : Str), ("Rule" : Str)]
  f_ends : FldOk ⟨K, mg⟩ ("ends" : Str) [("Machine" : Str)]
  f_rows : FldOk ⟨K, mg⟩ ("rows" : Str) [("Machine" : Str), ("Edits" : Str), ("Table" : Str), ("Reading" : Str)]
  f_signs : FldOk ⟨K, mg⟩ ("signs" : Str) [("Machine" : Str), ("Rule" : Str), ("Edits" : Str), ("Table" : Str)]
  errs : Errs ⟨K, mg⟩ [(("BadMachine" : Str), [("state" : Str), ("place" : Str)]), (("TooMany" : Str), [("what" : Str)])]
  erP : ∀ n ∈ ([("BadMachine" : Str), ("TooMany" : Str)] : List Str), ∀ m ∈ ([("BadMachine" : Str), ("TooMany" : Str)] : List Str), ErrP ⟨K, mg⟩ n m
  mgE : ∀ m ∈ ([("BadMachine" : Str), ("TooMany" : Str)] : List Str), ∃ D, mg m = some (.ref D)
  kiP : ∀ p ∈ ([(("BadMachine" : Str), [("state" : Str), ("place" : Str)]), (("TooMany" : Str), [("what" : Str)])] : List (Str × List Str)), ∀ m ∈ ([("MissError" : Str)] : List Str), KitP ⟨K, mg⟩ p.1 m
  mgI : ∀ m ∈ ([("MissError" : Str)] : List Str), ∃ D, mg m = some (.ref D)
section
variable {P : Program} {w : World} {K : PySem.W.Frag} {mg : Str → Option Value} {base : Heap}
theorem p__law_pen {f : Addr} {fd : FuncData} (F : Fun K "_law_pen" "_law_pen" s__law_pen f fd) (T : Txt K mg)  : FnOk P w K mg base (L2.CX P w) 1 f fd ["script"] (spD ⟨K, mg⟩ 1 f__law_pen) :=
  u__law_pen ▸ fn_def F sc__law_pen fun cdv A outer s H vs E hr => by
    have hu : (A.deeper (envOfC "_law_pen" (defScope s__law_pen) s.heap.objs.size f cdv)).units + 65 < cLine := by have := hr.un; omega
    have hu1 : (A.deeper (envOfC "_law_pen" (defScope s__law_pen) s.heap.objs.size f cdv)).units + 1 < cLine := by omega
    have hN := sc__law_pen.nd
    exact (ds_one (ds_ret (do_disp (dps_cons de_str (de_o (do_list rfl T.b_list (da_cons (db_of (de_o (do_slice rfl (db_name (pv 0)) dp_none (dp_some (do_of de_int))))) da_nil))) (dps_cons de_str de_int (dps_cons de_str de_int dps_nil))))))
theorem p__law_draw {f : Addr} {fd : FuncData} (F : Fun K "_law_draw" "_law_draw" s__law_draw f fd) (T : Txt K mg)  : FnOk P w K mg base (L2.CX P w) 1 f fd ["pen", "many"] (spD ⟨K, mg⟩ 2 f__law_draw) :=
  u__law_draw ▸ fn_def F sc__law_draw fun cdv A outer s H vs E hr => by
    have hu : (A.deeper (envOfC "_law_draw" (defScope s__law_draw) s.heap.objs.size f cdv)).units + 65 < cLine := by have := hr.un; omega
    have hu1 : (A.deeper (envOfC "_law_draw" (defScope s__law_draw) s.heap.objs.size f cdv)).units + 1 < cLine := by omega
    have hN := sc__law_draw.nd
    exact (ds_cons (ds_if (dt_cm cm_Ge (db_of (de_o (do_Ix hu rfl (db_name (pv 0)) (db_of de_str)))) (db_name (pv 1)))
    (ds_cons (ds_set (i := 2) hN (do_Mod (db_of (de_o (do_int T.b_int (da_cons (db_of (de_o (do_Ix hu rfl (db_name (pv 0)) (db_of de_str)))) da_nil)))) (db_name (pv 1))))
    (ds_cons (ds_put hu1 (pv 0) (db_of de_str) (de_o (do_FloorDiv (db_of (de_o (do_Ix hu rfl (db_name (pv 0)) (db_of de_str)))) (db_name (pv 1)))))
    (ds_one (ds_ret (do_mv (pv 2))))))
    ds_nil)
    (ds_cons (ds_set (i := 3) hN (do_Ix hu rfl (db_name (pv 0)) (db_of de_str)))
    (ds_cons (ds_put hu1 (pv 0) (db_of de_str) (de_o (do_Add rfl (db_name (pv 3)) (db_of de_int))))
    (ds_cons (ds_set (i := 4) hN (do_Add rfl (db_of (de_o (do_Mult (db_of de_int) (db_name (pv 3))))) (db_of de_int)))
    (ds_cons (ds_if (dt_cm (cm_Ne hu rfl) (db_of (de_o (do_Ix hu rfl (db_name (pv 0)) (db_of de_str)))) (db_of (de_o (do_lst da_nil))))
    (ds_one (ds_set (i := 4) hN (do_Ix hu rfl (db_of (de_o (do_Ix hu rfl (db_name (pv 0)) (db_of de_str)))) (db_of (de_o (do_Mod (db_of (de_o (do_int T.b_int (da_cons (db_name (pv 3)) da_nil)))) (db_of (de_o (do_len rfl T.b_len (da_cons (db_of (de_o (do_Ix hu rfl (db_name (pv 0)) (db_of de_str)))) da_nil))))))))))
    ds_nil)
    (ds_cons (ds_if (dt_bool (dw_and (dt_cm cm_Lt (db_name (pv 3)) (db_of (de_o (do_len rfl T.b_len (da_cons (db_of (de_o (do_Ix hu rfl (db_name (pv 0)) (db_of de_str)))) da_nil))))) (dw_and1 (dt_cm cm_Ge (db_name (pv 4)) (db_of (de_o (do_Pow (db_of de_int) (db_of de_int))))))))
    (ds_cons (ds_put hu1 (pv 0) (db_of de_str) (de_o (do_FloorDiv (db_of (de_o (do_Sub (db_name (pv 4)) (db_of (de_o (do_Pow (db_of de_int) (db_of de_int))))))) (db_name (pv 1)))))
    (ds_one (ds_ret (do_Mod (db_of (de_o (do_int T.b_int (da_cons (db_of (de_o (do_Sub (db_name (pv 4)) (db_of (de_o (do_Pow (db_of de_int) (db_of de_int))))))) da_nil)))) (db_name (pv 1))))))
    ds_nil)
    (ds_cons (ds_set (i := 5) hN (do_Add rfl (db_of (de_o (do_Add rfl (db_of (de_o (do_Add rfl (db_of (de_o (do_Mult (db_of (de_o (do_Mod (db_of (de_o (do_int T.b_int (da_cons (db_name (pv 4)) da_nil)))) (db_of de_int)))) (db_of de_int)))) (db_of (de_o (do_Mult (db_of (de_o (do_Mult (db_of de_int) (db_name (pv 3))))) (db_name (pv 3)))))))) (db_of (de_o (do_Mult (db_of de_int) (db_name (pv 3)))))))) (db_of de_int)))
    (ds_cons (ds_set (i := 5) hN (do_Mod (db_of (de_o (do_int T.b_int (da_cons (db_name (pv 5)) da_nil)))) (db_of de_int)))
    (ds_cons (ds_set (i := 5) hN (do_Mod (db_of (de_o (do_int T.b_int (da_cons (db_of (de_o (do_Mult (db_name (pv 5)) (db_of (de_o (do_Add rfl (db_name (pv 5)) (db_of de_int))))))) da_nil)))) (db_of de_int)))
    (ds_one (ds_ret (do_Mod (db_of (de_o (do_int T.b_int (da_cons (db_of (de_o (do_FloorDiv (db_of (de_o (do_Mod (db_of (de_o (do_int T.b_int (da_cons (db_of (de_o (do_Mult (db_name (pv 5)) (db_name (pv 5))))) da_nil)))) (db_of de_int)))) (db_of de_int)))) da_nil)))) (db_name (pv 1))))))))))))))
theorem p__law_signs {f : Addr} {fd : FuncData} (F : Fun K "_law_signs" "_law_signs" s__law_signs f fd) (T : Txt K mg) (c__law_draw : DefOk P w K mg base 1 "_law_draw" 2 f__law_draw) : FnOk P w K mg base (L2.CX P w) 2 f fd ["pen", "many"] (spD ⟨K, mg⟩ 2 f__law_signs) :=
  u__law_signs ▸ fn_def F sc__law_signs fun cdv A outer s H vs E hr => by
    have hu : (A.deeper (envOfC "_law_signs" (defScope s__law_signs) s.heap.objs.size f cdv)).units + 65 < cLine := by have := hr.un; omega
    have hu1 : (A.deeper (envOfC "_law_signs" (defScope s__law_signs) s.heap.objs.size f cdv)).units + 1 < cLine := by omega
    have hN := sc__law_signs.nd
    exact (ds_cons (ds_asg (de_o (do_tup (da_cons (db_of de_str) (da_cons (db_of de_str) da_nil)))) (pg_tupA rfl (pgs_cons (pg_name (i := 2) hN rfl (by first | exact .inl rfl | exact .inr rfl)) (pgs_cons (pg_name (i := 3) hN rfl (by first | exact .inl rfl | exact .inr rfl)) pgs_nil))) (gs_tup rfl (gss_cons (gs_name (i := 2)) (gss_cons (gs_name (i := 3)) gss_nil))))
    (ds_cons (ds_for hp_cx rfl (di_of (di_range1 T.b_range (da_cons (db_name (pv 1)) da_nil))) (pg_name (i := 4) hN rfl (by first | exact .inl rfl | exact .inr rfl)) (gs_name (i := 4))
    (dss_fg (ds_cons (ds_set (i := 5) hN (do_call c__law_draw (by decide) hr tk_cx rfl (da_cons (db_name (pv 0)) (da_cons (db_of (de_o (do_len rfl T.b_len (da_cons (db_name (pv 2)) da_nil)))) da_nil))))
    (ds_one (ds_par (i := 3) (j := 2) rfl hN (do_Add rfl (db_name (pv 3)) (db_of (de_o (do_Ix hu rfl (db_name (pv 2)) (db_name (pv 5)))))) (do_Add rfl (db_of (de_o (do_slice rfl (db_name (pv 2)) dp_none (dp_some (do_of (de_name (pv 5))))))) (db_of (de_o (do_slice rfl (db_name (pv 2)) (dp_some (do_Add rfl (db_name (pv 5)) (db_of de_int))) dp_none)))))))))
    (ds_one (ds_ret (do_mv (pv 3))))))
theorem p__law_pick {f : Addr} {fd : FuncData} (F : Fun K "_law_pick" "_law_pick" s__law_pick f fd) (T : Txt K mg) (c__law_draw : DefOk P w K mg base 1 "_law_draw" 2 f__law_draw) : FnOk P w K mg base (L2.CX P w) 2 f fd ["pen", "items"] (spD ⟨K, mg⟩ 2 f__law_pick) :=
  u__law_pick ▸ fn_def F sc__law_pick fun cdv A outer s H vs E hr => by
    have hu : (A.deeper (envOfC "_law_pick" (defScope s__law_pick) s.heap.objs.size f cdv)).units + 65 < cLine := by have := hr.un; omega
    have hu1 : (A.deeper (envOfC "_law_pick" (defScope s__law_pick) s.heap.objs.size f cdv)).units + 1 < cLine := by omega
    have hN := sc__law_pick.nd
    exact (ds_one (ds_ret (do_Ix hu rfl (db_name (pv 1)) (db_of (de_o (do_call c__law_draw (by decide) hr tk_cx rfl (da_cons (db_name (pv 0)) (da_cons (db_of (de_o (do_len rfl T.b_len (da_cons (db_name (pv 1)) da_nil)))) da_nil))))))))
theorem p__law_keys {f : Addr} {fd : FuncData} (F : Fun K "_law_keys" "_law_keys" s__law_keys f fd) (T : Txt K mg) (c__law_pick : DefOk P w K mg base 2 "_law_pick" 2 f__law_pick) : FnOk P w K mg base (L2.CX P w) 3 f fd ["pen", "words"] (spD ⟨K, mg⟩ 2 f__law_keys) :=
  u__law_keys ▸ fn_def F sc__law_keys fun cdv A outer s H vs E hr => by
    have hu : (A.deeper (envOfC "_law_keys" (defScope s__law_keys) s.heap.objs.size f cdv)).units + 65 < cLine := by have := hr.un; omega
    have hu1 : (A.deeper (envOfC "_law_keys" (defScope s__law_keys) s.heap.objs.size f cdv)).units + 1 < cLine := by omega
    have hN := sc__law_keys.nd
    exact (ds_cons (ds_set (i := 2) hN (do_call c__law_pick (by decide) hr tk_cx rfl (da_cons (db_name (pv 0)) (da_cons (db_of (de_o (do_lst (da_cons (db_of de_int) (da_cons (db_of de_int) (da_cons (db_of de_int) (da_cons (db_of de_int) (da_cons (db_of de_int) (da_cons (db_of de_int) da_nil))))))))) da_nil))))
    (ds_one (ds_ret (do_sset rfl rfl T.b_sorted T.b_set (db_of (de_o (do_lc (own := [(("k" : Str), 3)]) rfl hN (di_range1 T.b_range (da_cons (db_name (pv 2)) da_nil)) (blkOk_by rfl) (fun _ _ _ _ _ => (pg_name (i := 3) hN rfl (by first | exact .inl rfl | exact .inr rfl))) (gs_name (i := 3)) (by decide) (fun _ _ _ _ _ => dts_nil) (fun _ _ _ _ _ => (de_o (do_call c__law_pick (by decide) hr takes0 rfl (da_cons (db_name (pv 0)) (da_cons (db_of (de_name (pv 1))) da_nil))))))))))))
theorem p__law_tables {f : Addr} {fd : FuncData} (F : Fun K "_law_tables" "_law_tables" s__law_tables f fd) (T : Txt K mg) (c__law_draw : DefOk P w K mg base 1 "_law_draw" 2 f__law_draw) (c__law_keys : DefOk P w K mg base 3 "_law_keys" 2 f__law_keys) : FnOk P w K mg base (L2.CX P w) 4 f fd ["pen", "signs", "most", "words"] (spD ⟨K, mg⟩ 4 f__law_tables) :=
  u__law_tables ▸ fn_def F sc__law_tables fun cdv A outer s H vs E hr => by
    have hu : (A.deeper (envOfC "_law_tables" (defScope s__law_tables) s.heap.objs.size f cdv)).units + 65 < cLine := by have := hr.un; omega
    have hu1 : (A.deeper (envOfC "_law_tables" (defScope s__law_tables) s.heap.objs.size f cdv)).units + 1 < cLine := by omega
    have hN := sc__law_tables.nd
    exact (ds_cons (ds_set (i := 4) hN (do_Add rfl (db_of de_int) (db_of (de_o (do_call c__law_draw (by decide) hr tk_cx rfl (da_cons (db_name (pv 0)) (da_cons (db_of (de_name (pv 2))) da_nil)))))))
    (ds_cons (ds_setLc (own := [(("state" : Str), 6)]) rfl hN rfl rfl (sw_true rfl rfl rfl rfl) (di_range1 T.b_range (da_cons (db_name (pv 4)) da_nil)) (blkOk_by rfl) (fun _ _ _ _ _ => (pg_name (i := 6) hN rfl (by first | exact .inl rfl | exact .inr rfl))) (gs_name (i := 6)) (by decide) (fun _ _ _ _ _ => dts_nil) (fun _ _ _ _ _ => (de_o (do_lc (own := [(("sign" : Str), 7)]) rfl hN (di_seq rfl (db_name (pv 1))) (blkOk_by rfl) (fun _ _ _ _ _ => (pg_name (i := 7) hN rfl (by first | exact .inl rfl | exact .inr rfl))) (gs_name (i := 7)) (by decide) (fun _ _ _ _ _ => dts_nil) (fun _ _ _ _ _ => (de_o (do_tup (da_cons (db_of (de_o (do_call c__law_draw (by decide) hr takes0 rfl (da_cons (db_name (pv 0)) (da_cons (db_of (de_name (pv 4))) da_nil))))) (da_cons (db_of (de_o (do_call c__law_keys (by decide) hr takes0 rfl (da_cons (db_name (pv 0)) (da_cons (db_of (de_name (pv 3))) da_nil))))) da_nil)))))))))
    (ds_one (ds_ret (do_tup (da_cons (db_of (de_name (pv 5))) (da_cons (db_of (de_o (do_lc (own := [(("state" : Str), 6)]) rfl hN (di_range1 T.b_range (da_cons (db_name (pv 4)) da_nil)) (blkOk_by rfl) (fun _ _ _ _ _ => (pg_name (i := 6) hN rfl (by first | exact .inl rfl | exact .inr rfl))) (gs_name (i := 6)) (by decide) (fun _ _ _ _ _ => dts_nil) (fun _ _ _ _ _ => (de_o (do_call c__law_keys (by decide) hr takes0 rfl (da_cons (db_name (pv 0)) (da_cons (db_of (de_name (pv 3))) da_nil)))))))) da_nil)))))))
theorem p_check_rows {f : Addr} {fd : FuncData} (F : Fun K "check_rows" "check_rows" s_check_rows f fd) (T : Txt K mg) (e_BadMachine : ErrMk P w K mg base 1 "BadMachine" ["state", "place"]) : FnOk P w K mg base (L2.CX P w) 3 f fd ["rows"] (spD ⟨K, mg⟩ 1 f_check_rows) :=
  u_check_rows ▸ fn_def F sc_check_rows fun cdv A outer s H vs E hr => by
    have hu : (A.deeper (envOfC "check_rows" (defScope s_check_rows) s.heap.objs.size f cdv)).units + 65 < cLine := by have := hr.un; omega
    have hu1 : (A.deeper (envOfC "check_rows" (defScope s_check_rows) s.heap.objs.size f cdv)).units + 1 < cLine := by omega
    have hN := sc_check_rows.nd
    exact (ds_one (ds_for hp_cx rfl (di_of (di_enum rfl T.b_enumerate (da_cons (db_of (de_name (pv 0))) da_nil))) (pg_tupA rfl (pgs_cons (pg_name (i := 1) hN rfl (by first | exact .inl rfl | exact .inr rfl)) (pgs_cons (pg_name (i := 2) hN rfl (by first | exact .inl rfl | exact .inr rfl)) pgs_nil))) (gs_tup rfl (gss_cons (gs_name (i := 1)) (gss_cons (gs_name (i := 2)) gss_nil)))
    (dss_fg (ds_one (ds_for hp_cx rfl (di_of (di_enum rfl T.b_enumerate (da_cons (db_of (de_name (pv 2))) da_nil))) (pg_tupA rfl (pgs_cons (pg_name (i := 3) hN rfl (by first | exact .inl rfl | exact .inr rfl)) (pgs_cons (pg_name (i := 4) hN rfl (by first | exact .inl rfl | exact .inr rfl)) pgs_nil))) (gs_tup rfl (gss_cons (gs_name (i := 3)) (gss_cons (gs_name (i := 4)) gss_nil)))
    (dss_fg (ds_one (ds_if (dt_not (dt_ch cm_Le cm_Lt (db_of de_int) (db_of (de_o (do_Ix hu rfl (db_name (pv 4)) (db_of de_int)))) (db_of (de_o (do_len rfl T.b_len (da_cons (db_name (pv 0)) da_nil))))))
    (ds_one (ds_raise e_BadMachine (by decide) hr tk_cx rfl rfl (da_cons (db_of (de_name (pv 1))) (da_cons (db_of (de_name (pv 3))) da_nil))))
    ds_nil))))))))
theorem p_ascending {f : Addr} {fd : FuncData} (F : Fun K "ascending" "ascending" s_ascending f fd) (T : Txt K mg)  : FnOk P w K mg base (L2.CX P w) 1 f fd ["words"] (spD ⟨K, mg⟩ 1 f_ascending) :=
  u_ascending ▸ fn_def F sc_ascending fun cdv A outer s H vs E hr => by
    have hu : (A.deeper (envOfC "ascending" (defScope s_ascending) s.heap.objs.size f cdv)).units + 65 < cLine := by have := hr.un; omega
    have hu1 : (A.deeper (envOfC "ascending" (defScope s_ascending) s.heap.objs.size f cdv)).units + 1 < cLine := by omega
    have hN := sc_ascending.nd
    exact (ds_one (ds_ret (do_tuple rfl T.b_tuple (da_cons (db_of (de_o (do_sorted2 rfl hu rfl T.b_sorted (da_cons (db_of (de_o (do_lc (own := [(("word" : Str), 1)]) rfl hN (di_seq rfl (db_of (de_o (do_dc (own := [(("word" : Str), 1)]) rfl hN (di_seq rfl (db_name (pv 0))) (blkOk_by rfl) (fun _ _ _ _ _ => (pg_name (i := 1) hN rfl (by first | exact .inl rfl | exact .inr rfl))) (gs_name (i := 1)) (by decide) (fun _ _ _ _ _ => dts_nil) (fun _ _ _ _ _ => (de_name (pv 1))) (fun _ _ _ _ _ => de_bl))))) (blkOk_by rfl) (fun _ _ _ _ _ => (pg_name (i := 1) hN rfl (by first | exact .inl rfl | exact .inr rfl))) (gs_name (i := 1)) (by decide) (fun _ _ _ _ _ => dts_nil) (fun _ _ _ _ _ => (de_o (do_str T.b_str (da_cons (db_name (pv 1)) da_nil))))))) da_nil)))) da_nil))))
theorem p_keys_in {f : Addr} {fd : FuncData} (F : Fun K "keys_in" "keys_in" s_keys_in f fd) (T : Txt K mg) (c_ascending : DefOk P w K mg base 1 "ascending" 1 f_ascending) : FnOk P w K mg base (L2.CX P w) 2 f fd ["rows", "ends"] (spD ⟨K, mg⟩ 2 f_keys_in) :=
  u_keys_in ▸ fn_def F sc_keys_in fun cdv A outer s H vs E hr => by
    have hu : (A.deeper (envOfC "keys_in" (defScope s_keys_in) s.heap.objs.size f cdv)).units + 65 < cLine := by have := hr.un; omega
    have hu1 : (A.deeper (envOfC "keys_in" (defScope s_keys_in) s.heap.objs.size f cdv)).units + 1 < cLine := by omega
    have hN := sc_keys_in.nd
    exact (ds_cons (ds_setLcN (own := [(("row" : Str), 3), (("goal" : Str), 4), (("keys" : Str), 5), (("key" : Str), 6)]) rfl hN rfl rfl (sw_true rfl rfl rfl rfl) (di_seq rfl (db_name (pv 0))) (blkOk_by rfl) (fun _ _ _ _ _ => (pg_name (i := 3) hN rfl (by first | exact .inl rfl | exact .inr rfl))) (gs_name (i := 3)) (by decide) (fun _ _ _ _ _ => dts_nil) (fun _ _ _ _ _ => (de_name (pv 6))) (fun _ _ _ _ _ => (cjs_cons (di_of (di_seq rfl (db_name (pv 3)))) (pg_tupA rfl (pgs_cons (pg_name (i := 4) hN rfl (by first | exact .inl rfl | exact .inr rfl)) (pgs_cons (pg_name (i := 5) hN rfl (by first | exact .inl rfl | exact .inr rfl)) pgs_nil))) dts_nil (cjs_cons (di_of (di_seq rfl (db_name (pv 5)))) (pg_name (i := 6) hN rfl (by first | exact .inl rfl | exact .inr rfl)) dts_nil .nil))) (rdc_cons (gs_tup rfl (gss_cons (gs_name (i := 4)) (gss_cons (gs_name (i := 5)) gss_nil))) (rdc_cons (gs_name (i := 6)) .nil)))
    (ds_one (ds_ret (do_call c_ascending (by decide) hr tk_cx rfl (da_cons (db_of (de_o (do_lst (da_star rfl (db_name (pv 2)) (da_star rfl (db_of (de_o (do_lcN (own := [(("keys" : Str), 5), (("key" : Str), 6)]) rfl hN (di_seq rfl (db_name (pv 1))) (blkOk_by rfl) (fun _ _ _ _ _ => (pg_name (i := 5) hN rfl (by first | exact .inl rfl | exact .inr rfl))) (gs_name (i := 5)) (by decide) (fun _ _ _ _ _ => dts_nil) (fun _ _ _ _ _ => (de_name (pv 6))) (fun _ _ _ _ _ => (cjs_cons (di_of (di_seq rfl (db_name (pv 5)))) (pg_name (i := 6) hN rfl (by first | exact .inl rfl | exact .inr rfl)) dts_nil .nil)) (rdc_cons (gs_name (i := 6)) .nil)))) da_nil))))) da_nil)))))
theorem p_Machine_init_v1 {f : Addr} {fd : FuncData} (F : Fun K "__init__" "Machine.__init__" s_Machine_init_v1 f fd) (T : Txt K mg) (c_check_rows : DefOk P w K mg base 3 "check_rows" 1 f_check_rows) (c_ascending : DefOk P w K mg base 1 "ascending" 1 f_ascending) (c_keys_in : DefOk P w K mg base 2 "keys_in" 2 f_keys_in) (e_TooMany : ErrMk P w K mg base 1 "TooMany" ["what"]) : FnOk P w K mg base (L2.CX P w) 4 f fd ["self", "signs", "rows", "ends"] (spD ⟨K, mg⟩ 4 f_Machine_init_v1) :=
  u_Machine_init_v1 ▸ fn_def F sc_Machine_init_v1 fun cdv A outer s H vs E hr => by
    have hu : (A.deeper (envOfC "Machine.__init__" (defScope s_Machine_init_v1) s.heap.objs.size f cdv)).units + 65 < cLine := by have := hr.un; omega
    have hu1 : (A.deeper (envOfC "Machine.__init__" (defScope s_Machine_init_v1) s.heap.objs.size f cdv)).units + 1 < cLine := by omega
    have hN := sc_Machine_init_v1.nd
    exact (ds_cons (ds_expr (do_call c_check_rows (by decide) hr tk_cx rfl (da_cons (db_of (de_name (pv 2))) da_nil)))
    (ds_cons (ds_fld T.f_signs rfl (pv 0) (de_name (pv 1)))
    (ds_cons (ds_fld T.f_rows rfl (pv 0) (de_o (do_tuple rfl T.b_tuple (da_cons (db_of (de_o (do_lc (own := [(("row" : Str), 4)]) rfl hN (di_seq rfl (db_name (pv 2))) (blkOk_by rfl) (fun _ _ _ _ _ => (pg_name (i := 4) hN rfl (by first | exact .inl rfl | exact .inr rfl))) (gs_name (i := 4)) (by decide) (fun _ _ _ _ _ => dts_nil) (fun _ _ _ _ _ => (de_o (do_tuple rfl T.b_tuple (da_cons (db_of (de_o (do_lc (own := [(("goal" : Str), 5), (("keys" : Str), 6)]) rfl hN (di_seq rfl (db_name (pv 4))) (blkOk_by rfl) (fun _ _ _ _ _ => (pg_tupA rfl (pgs_cons (pg_name (i := 5) hN rfl (by first | exact .inl rfl | exact .inr rfl)) (pgs_cons (pg_name (i := 6) hN rfl (by first | exact .inl rfl | exact .inr rfl)) pgs_nil)))) (gs_tup rfl (gss_cons (gs_name (i := 5)) (gss_cons (gs_name (i := 6)) gss_nil))) (by decide) (fun _ _ _ _ _ => dts_nil) (fun _ _ _ _ _ => (de_o (do_tup (da_cons (db_of (de_name (pv 5))) (da_cons (db_of (de_o (do_call c_ascending (by decide) hr takes0 rfl (da_cons (db_of (de_name (pv 6))) da_nil)))) da_nil)))))))) da_nil))))))) da_nil))))
    (ds_cons (ds_fld T.f_ends rfl (pv 0) (de_o (do_tuple rfl T.b_tuple (da_cons (db_of (de_o (do_lc (own := [(("keys" : Str), 6)]) rfl hN (di_seq rfl (db_name (pv 3))) (blkOk_by rfl) (fun _ _ _ _ _ => (pg_name (i := 6) hN rfl (by first | exact .inl rfl | exact .inr rfl))) (gs_name (i := 6)) (by decide) (fun _ _ _ _ _ => dts_nil) (fun _ _ _ _ _ => (de_o (do_call c_ascending (by decide) hr takes0 rfl (da_cons (db_of (de_name (pv 6))) da_nil))))))) da_nil))))
    (ds_cons (ds_fld T.f_all_keys rfl (pv 0) (de_o (do_call c_keys_in (by decide) hr tk_cx rfl (da_cons (db_of (de_o (do_fld T.f_rows rfl (db_name (pv 0))))) (da_cons (db_of (de_o (do_fld T.f_ends rfl (db_name (pv 0))))) da_nil)))))
    (ds_one (ds_if (dt_cm cm_Gt (db_of (de_o (do_len rfl T.b_len (da_cons (db_of (de_o (do_fld T.f_all_keys rfl (db_name (pv 0))))) da_nil)))) (db_of (de_g T.g_MOST_KEYS)))
    (ds_one (ds_raise e_TooMany (by decide) hr tk_cx rfl rfl (da_cons (db_of de_str) da_nil)))
    ds_nil)))))))
theorem p__law_told_v7 {f : Addr} {fd : FuncData} (F : Fun K "_law_told" "_law_told" s__law_told_v7 f fd) (T : Txt K mg) (c_Machine_init_v1 : MakeOk P w K mg base 4 "Machine" 4 f_Machine_init_v1) : FnOk P w K mg base (L2.CX P w) 6 f fd ["signs", "tables"] (spD ⟨K, mg⟩ 2 f__law_told_v7) :=
  u__law_told_v7 ▸ fn_def F sc__law_told_v7 fun cdv A outer s H vs E hr => by
    have hu : (A.deeper (envOfC "_law_told" (defScope s__law_told_v7) s.heap.objs.size f cdv)).units + 65 < cLine := by have := hr.un; omega
    have hu1 : (A.deeper (envOfC "_law_told" (defScope s__law_told_v7) s.heap.objs.size f cdv)).units + 1 < cLine := by omega
    have hN := sc__law_told_v7.nd
    exact (ds_cons (ds_tryT rfl rfl hN tk_cx rfl T.erP T.mgE (fun _ _ _ tk hp => (ds_one (ds_set (i := 2) hN (do_make c_Machine_init_v1 (by decide) hr tk rfl (da_cons (db_of (de_name (pv 0))) (da_cons (db_of (de_o (do_Ix hu rfl (db_name (pv 1)) (db_of de_int)))) (da_cons (db_of (de_o (do_Ix hu rfl (db_name (pv 1)) (db_of de_int)))) da_nil))))))) (.consN rfl rfl rfl (fun _ _ => (ds_one (ds_ret (do_tup (da_cons (db_of de_str) (da_cons (db_of (de_o (do_xf T.errs rfl (db_name (pv 3))))) (da_cons (db_of (de_o (do_xf T.errs rfl (db_name (pv 3))))) (da_cons (db_of (de_o (do_xi T.errs T.kiP rfl T.b_isinstance (da_cons (db_name (pv 3)) (da_cons (db_of (de_cls (T.mgI ("MissError" : Str) (by decide)) rfl)) da_nil))))) da_nil)))))))) (.consN rfl rfl rfl (fun _ _ => (ds_one (ds_ret (do_tup (da_cons (db_of de_str) (da_cons (db_of (de_o (do_xf T.errs rfl (db_name (pv 3))))) da_nil)))))) .nil)))
    (ds_one (ds_ret (do_len rfl T.b_len (da_cons (db_of (de_o (do_fld T.f_all_keys rfl (db_name (pv 2))))) da_nil)))))
theorem p__law_due_v9 {f : Addr} {fd : FuncData} (F : Fun K "_law_due" "_law_due" s__law_due_v9 f fd) (T : Txt K mg)  : FnOk P w K mg base (L2.CX P w) 1 f fd ["tables"] (spD ⟨K, mg⟩ 1 f__law_due_v9) :=
  u__law_due_v9 ▸ fn_def F sc__law_due_v9 fun cdv A outer s H vs E hr => by
    have hu : (A.deeper (envOfC "_law_due" (defScope s__law_due_v9) s.heap.objs.size f cdv)).units + 65 < cLine := by have := hr.un; omega
    have hu1 : (A.deeper (envOfC "_law_due" (defScope s__law_due_v9) s.heap.objs.size f cdv)).units + 1 < cLine := by omega
    have hN := sc__law_due_v9.nd
    exact (ds_cons (ds_asg (de_name (pv 0)) (pg_tupA rfl (pgs_cons (pg_name (i := 1) hN rfl (by first | exact .inl rfl | exact .inr rfl)) (pgs_cons (pg_name (i := 2) hN rfl (by first | exact .inl rfl | exact .inr rfl)) pgs_nil))) (gs_tup rfl (gss_cons (gs_name (i := 1)) (gss_cons (gs_name (i := 2)) gss_nil))))
    (ds_cons (ds_set (i := 3) hN (do_sumL rfl T.b_sum (da_cons (db_of (de_o (do_lc (own := [(("keys" : Str), 4)]) rfl hN (di_seq rfl (db_name (pv 2))) (blkOk_by rfl) (fun _ _ _ _ _ => (pg_name (i := 4) hN rfl (by first | exact .inl rfl | exact .inr rfl))) (gs_name (i := 4)) (by decide) (fun _ _ _ _ _ => dts_nil) (fun _ _ _ _ _ => (de_o (do_list rfl T.b_list (da_cons (db_name (pv 4)) da_nil))))))) (da_cons (db_of (de_o (do_lst da_nil))) da_nil))))
    (ds_cons (ds_for hp_cx rfl (di_of (di_range1 T.b_range (da_cons (db_of (de_o (do_len rfl T.b_len (da_cons (db_name (pv 1)) da_nil)))) da_nil))) (pg_name (i := 5) hN rfl (by first | exact .inl rfl | exact .inr rfl)) (gs_name (i := 5))
    (dss_fg (ds_one (ds_for hp_cx rfl (di_of (di_range1 T.b_range (da_cons (db_of (de_o (do_len rfl T.b_len (da_cons (db_of (de_o (do_Ix hu rfl (db_name (pv 1)) (db_name (pv 5))))) da_nil)))) da_nil))) (pg_name (i := 6) hN rfl (by first | exact .inl rfl | exact .inr rfl)) (gs_name (i := 6))
    (dss_fg (ds_cons (ds_if (dt_not (dt_ch cm_Le cm_Lt (db_of de_int) (db_of (de_o (do_Ix hu rfl (db_of (de_o (do_Ix hu rfl (db_of (de_o (do_Ix hu rfl (db_name (pv 1)) (db_name (pv 5))))) (db_name (pv 6))))) (db_of de_int)))) (db_of (de_o (do_len rfl T.b_len (da_cons (db_name (pv 1)) da_nil))))))
    (ds_one (ds_ret (do_tup (da_cons (db_of de_str) (da_cons (db_of (de_name (pv 5))) (da_cons (db_of (de_name (pv 6))) (da_cons (db_of de_bl) da_nil)))))))
    ds_nil)
    (ds_one (ds_set (i := 3) hN (do_Add rfl (db_name (pv 3)) (db_of (de_o (do_list rfl T.b_list (da_cons (db_of (de_o (do_Ix hu rfl (db_of (de_o (do_Ix hu rfl (db_of (de_o (do_Ix hu rfl (db_name (pv 1)) (db_name (pv 5))))) (db_name (pv 6))))) (db_of de_int)))) da_nil)))))))))))))
    (ds_one (ds_ret (do_if (dt_cm cm_Gt (db_of (de_o (do_lset rfl rfl T.b_len T.b_set (db_name (pv 3))))) (db_of de_int)) (do_tup (da_cons (db_of de_str) (da_cons (db_of de_str) da_nil))) (do_lset rfl rfl T.b_len T.b_set (db_name (pv 3)))))))))
theorem p_law_v47 {f : Addr} {fd : FuncData} (F : Fun K "law" "law" s_law_v47 f fd) (T : Txt K mg) (c__law_pen : DefOk P w K mg base 1 "_law_pen" 1 f__law_pen) (c__law_signs : DefOk P w K mg base 2 "_law_signs" 2 f__law_signs) (c__law_draw : DefOk P w K mg base 1 "_law_draw" 2 f__law_draw) (c__law_tables : DefOk P w K mg base 4 "_law_tables" 4 f__law_tables) (c__law_pick : DefOk P w K mg base 2 "_law_pick" 2 f__law_pick) (c__law_told_v7 : DefOk P w K mg base 6 "_law_told" 2 f__law_told_v7) (c__law_due_v9 : DefOk P w K mg base 1 "_law_due" 1 f__law_due_v9) : FnOk P w K mg base (L2.CX P w) 7 f fd ["script"] (spD ⟨K, mg⟩ 1 f_law_v47) :=
  u_law_v47 ▸ fn_def F sc_law_v47 fun cdv A outer s H vs E hr => by
    have hu : (A.deeper (envOfC "law" (defScope s_law_v47) s.heap.objs.size f cdv)).units + 65 < cLine := by have := hr.un; omega
    have hu1 : (A.deeper (envOfC "law" (defScope s_law_v47) s.heap.objs.size f cdv)).units + 1 < cLine := by omega
    have hN := sc_law_v47.nd
    exact (ds_cons (ds_set (i := 1) hN (do_call c__law_pen (by decide) hr tk_cx rfl (da_cons (db_of (de_name (pv 0))) da_nil)))
    (ds_cons (ds_for hp_cx rfl (di_of (di_range1 T.b_range (da_cons (db_of (de_o (do_Add rfl (db_of de_int) (db_of (de_o (do_min rfl T.b_min (da_cons (db_of de_int) (da_cons (db_of (de_o (do_len rfl T.b_len (da_cons (db_name (pv 0)) da_nil)))) da_nil)))))))) da_nil))) (pg_name (i := 2) hN rfl (by first | exact .inl rfl | exact .inr rfl)) (gs_name (i := 2))
    (dss_fg (ds_cons (ds_par (i := 3) (j := 4) rfl hN (do_call c__law_signs (by decide) hr tk_cx rfl (da_cons (db_name (pv 1)) (da_cons (db_of (de_o (do_Add rfl (db_of de_int) (db_of (de_o (do_call c__law_draw (by decide) hr tk_cx rfl (da_cons (db_name (pv 1)) (da_cons (db_of de_int) da_nil)))))))) da_nil))) (do_lc (own := [(("k" : Str), 5)]) rfl hN (di_range1 T.b_range (da_cons (db_of de_int) da_nil)) (blkOk_by rfl) (fun _ _ _ _ _ => (pg_name (i := 5) hN rfl (by first | exact .inl rfl | exact .inr rfl))) (gs_name (i := 5)) (by decide) (fun _ _ _ _ _ => dts_nil) (fun _ _ _ _ _ => (de_o (do_Add rfl (db_of de_str) (db_of (de_o (do_str T.b_str (da_cons (db_name (pv 5)) da_nil)))))))))
    (ds_cons (ds_set (i := 6) hN (do_call c__law_tables (by decide) hr tk_cx rfl (da_cons (db_name (pv 1)) (da_cons (db_of (de_name (pv 3))) (da_cons (db_of de_int) (da_cons (db_of (de_o (do_slice rfl (db_name (pv 4)) dp_none (dp_some (do_call c__law_pick (by decide) hr tk_cx rfl (da_cons (db_name (pv 1)) (da_cons (db_of (de_o (do_lst (da_cons (db_of de_int) (da_cons (db_of de_int) (da_cons (db_of de_int) da_nil)))))) da_nil))))))) da_nil))))))
    (ds_regionP (i := 7) (j := 8) (g := 14) (n := 16) (start_le (by decide)) rfl hN (dm_lc (own := [(("row" : Str), 9)]) rfl hN (di_seq rfl (db_of (de_o (do_Ix hu rfl (db_name (pv 6)) (db_of de_int))))) (blkOk_by rfl) (fun _ _ _ _ _ => (pg_name (i := 9) hN rfl (by first | exact .inl rfl | exact .inr rfl))) (gs_name (i := 9)) (by decide) (fun _ _ _ _ _ => dts_nil) (fun _ _ _ _ _ => (do_list rfl T.b_list (da_cons (db_name (pv 9)) da_nil)))) (do_list rfl T.b_list (da_cons (db_of (de_o (do_Ix hu rfl (db_name (pv 6)) (db_of de_int)))) da_nil)) (fun bs =>
    (ds_cons (ds_if (dt_cm (cm_Eq hu rfl) (db_of (de_o (do_call c__law_draw (by decide) hr tk_cx rfl (da_cons (db_name (pv 1)) (da_cons (db_of de_int) da_nil))))) (db_of de_int))
    (ds_one (ds_put hu1 (pv 8) (db_of (de_o (do_call c__law_draw (by decide) hr tk_cx rfl (da_cons (db_name (pv 1)) (da_cons (db_of (de_o (do_len rfl T.b_len (da_cons (db_name (pv 8)) da_nil)))) da_nil))))) (de_o (do_slice rfl (db_name (pv 4)) dp_none (dp_some (do_call c__law_pick (by decide) hr tk_cx rfl (da_cons (db_name (pv 1)) (da_cons (db_of (de_o (do_lst (da_cons (db_of de_int) (da_cons (db_of de_int) (da_cons (db_of de_int) da_nil)))))) da_nil))))))))
    ds_nil)
    (ds_cons (ds_for hp_cx rfl (di_of (di_range1 T.b_range (da_cons (db_of (de_o (do_call c__law_draw (by decide) hr tk_cx rfl (da_cons (db_name (pv 1)) (da_cons (db_of de_int) da_nil))))) da_nil))) (pg_name (i := 10) hN rfl (by first | exact .inl rfl | exact .inr rfl)) (gs_name (i := 10))
    (dss_fg (ds_cons (ds_par (i := 11) (j := 12) rfl hN (do_call c__law_draw (by decide) hr tk_cx rfl (da_cons (db_name (pv 1)) (da_cons (db_of (de_o (do_len rfl T.b_len (da_cons (db_name (pv 7)) da_nil)))) da_nil))) (do_call c__law_draw (by decide) hr tk_cx rfl (da_cons (db_name (pv 1)) (da_cons (db_of (de_o (do_len rfl T.b_len (da_cons (db_name (pv 3)) da_nil)))) da_nil))))
    (ds_cons (ds_set (i := 13) hN (do_lst (da_cons (db_of (de_o (do_USub (db_of de_int)))) (da_cons (db_of (de_o (do_len rfl T.b_len (da_cons (db_name (pv 7)) da_nil)))) (da_cons (db_of (de_o (do_Add rfl (db_of (de_o (do_len rfl T.b_len (da_cons (db_name (pv 7)) da_nil)))) (db_of de_int)))) (da_cons (db_of (de_o (do_Sub (db_of de_int) (db_of (de_o (do_len rfl T.b_len (da_cons (db_name (pv 7)) da_nil))))))) (da_cons (db_of (de_o (do_Pow (db_of de_int) (db_of de_int)))) da_nil)))))))
    (ds_one (ds_putB hu1 (db_row 14 (de_o (do_Ix hu rfl (db_name (pv 7)) (db_name (pv 11))))) (db_name (pv 12)) (de_o (do_tup (da_cons (db_of (de_o (do_call c__law_pick (by decide) hr tk_cx rfl (da_cons (db_name (pv 1)) (da_cons (db_of (de_name (pv 13))) da_nil))))) (da_cons (db_of (de_o (do_Ix hu rfl (db_of (de_o (do_Ix hu rfl (db_row 14 (de_o (do_Ix hu rfl (db_name (pv 7)) (db_name (pv 11))))) (db_name (pv 12))))) (db_of de_int)))) da_nil))))))))))
    (ds_cons (ds_if (dt_cm (cm_Ne hu rfl) (db_of (de_o (do_call c__law_told_v7 (by decide) hr tk_cx rfl (da_cons (db_of (de_name (pv 3))) (da_cons (db_of (de_o (do_tup (da_cons (db_of (de_matN 14 (pv 7))) (da_cons (db_of (de_name (pv 8))) da_nil))))) da_nil))))) (db_of (de_o (do_call c__law_due_v9 (by decide) hr tk_cx rfl (da_cons (db_of (de_o (do_tup (da_cons (db_of (de_matN 14 (pv 7))) (da_cons (db_of (de_name (pv 8))) da_nil))))) da_nil)))))
    (ds_one (ds_ret (do_of de_bl)))
    ds_nil)
    (ds_one (ds_if (dt_cm (cm_Ne hu rfl) (db_of (de_o (do_call c__law_told_v7 (by decide) hr tk_cx rfl (da_cons (db_of (de_name (pv 3))) (da_cons (db_of (de_name (pv 6))) da_nil))))) (db_of (de_o (do_call c__law_due_v9 (by decide) hr tk_cx rfl (da_cons (db_of (de_name (pv 6))) da_nil)))))
    (ds_one (ds_ret (do_of de_bl)))
    ds_nil)))))) (ghost_by (N := ["script", "pen", "turn", "signs", "words", "k", "tables", "rows", "ends", "row", "bent", "state", "place", "wrong", "#0", "#1", "#2", "#3", "#4", "#5", "#6", "#7", "#8", "#9", "#10", "#11", "#12", "#13", "#14", "#15"]) (sc := defScope s_law_v47) (g := 14) (n := 16) (by decide +kernel)) rfl rfl (by decide) rfl rfl rfl rfl rfl rfl)))))
    (ds_one (ds_ret (do_of de_bl)))))
end
theorem all_mk {l : PySem.W.OpenLaw} {w : World} {K : PySem.W.Frag} {h : Heap} {mg : Str → Option Value} {fa : Addr} (X : K.In h) (G : h.Ns mainGlobals mg) (hfa : mg "law" = some (.ref fa))
    {CMachine : Addr}
    {tk_MOST_KEYS : Tok}
    {f_law_pen : Addr} {od_law_pen an_law_pen : Option Addr} {sl_law_pen : Array (Option Value)} {oc_law_pen kV_law_pen dc_law_pen pm_law_pen cd_law_pen ct_law_pen : Value}
    {f_law_draw : Addr} {od_law_draw an_law_draw : Option Addr} {sl_law_draw : Array (Option Value)} {oc_law_draw kV_law_draw dc_law_draw pm_law_draw cd_law_draw ct_law_draw : Value}
    {f_law_signs : Addr} {od_law_signs an_law_signs : Option Addr} {sl_law_signs : Array (Option Value)} {oc_law_signs kV_law_signs dc_law_signs pm_law_signs cd_law_signs ct_law_signs : Value}
    {f_law_pick : Addr} {od_law_pick an_law_pick : Option Addr} {sl_law_pick : Array (Option Value)} {oc_law_pick kV_law_pick dc_law_pick pm_law_pick cd_law_pick ct_law_pick : Value}
    {f_law_keys : Addr} {od_law_keys an_law_keys : Option Addr} {sl_law_keys : Array (Option Value)} {oc_law_keys kV_law_keys dc_law_keys pm_law_keys cd_law_keys ct_law_keys : Value}
    {f_law_tables : Addr} {od_law_tables an_law_tables : Option Addr} {sl_law_tables : Array (Option Value)} {oc_law_tables kV_law_tables dc_law_tables pm_law_tables cd_law_tables ct_law_tables : Value}
    {fcheck_rows : Addr} {odcheck_rows ancheck_rows : Option Addr} {slcheck_rows : Array (Option Value)} {occheck_rows kVcheck_rows dccheck_rows pmcheck_rows cdcheck_rows ctcheck_rows : Value}
    {fascending : Addr} {odascending anascending : Option Addr} {slascending : Array (Option Value)} {ocascending kVascending dcascending pmascending cdascending ctascending : Value}
    {fkeys_in : Addr} {odkeys_in ankeys_in : Option Addr} {slkeys_in : Array (Option Value)} {ockeys_in kVkeys_in dckeys_in pmkeys_in cdkeys_in ctkeys_in : Value}
    {fMachine_init_v1 : Addr} {odMachine_init_v1 anMachine_init_v1 : Option Addr} {slMachine_init_v1 : Array (Option Value)} {ocMachine_init_v1 kVMachine_init_v1 dcMachine_init_v1 pmMachine_init_v1 cdMachine_init_v1 ctMachine_init_v1 : Value}
    {f_law_told_v7 : Addr} {od_law_told_v7 an_law_told_v7 : Option Addr} {sl_law_told_v7 : Array (Option Value)} {oc_law_told_v7 kV_law_told_v7 dc_law_told_v7 pm_law_told_v7 cd_law_told_v7 ct_law_told_v7 : Value}
    {f_law_due_v9 : Addr} {od_law_due_v9 an_law_due_v9 : Option Addr} {sl_law_due_v9 : Array (Option Value)} {oc_law_due_v9 kV_law_due_v9 dc_law_due_v9 pm_law_due_v9 cd_law_due_v9 ct_law_due_v9 : Value}
    {flaw_v47 : Addr} {odlaw_v47 anlaw_v47 : Option Addr} {sllaw_v47 : Array (Option Value)} {oclaw_v47 kVlaw_v47 dclaw_v47 pmlaw_v47 cdlaw_v47 ctlaw_v47 : Value}
    {CBadMachine : Addr}
    {CTooMany : Addr}
    {CMissError : Addr}
    {nmBadMachine qBadMachine : Str} {NBadMachine fIBadMachine ccBadMachine cdBadMachine : Addr} {bsBadMachine bmBadMachine sbBadMachine : List Value} {snBadMachine : List Str} {abBadMachine : Bool} {coBadMachine : Option Bool} {ddBadMachine : Option Addr} {k0BadMachine k1BadMachine k2BadMachine k3BadMachine k5BadMachine : Option Value}
    {ocBadMachine kVBadMachine dcBadMachine pmBadMachine ctBadMachine clBadMachine xlBadMachine : Value} {odBadMachine anBadMachine cddBadMachine xdBadMachine : Option Addr} {slBadMachine ccsBadMachine xsBadMachine : Array (Option Value)} {vsBadMachine : Array Value} {cldBadMachine : ClassData}
    {nmTooMany qTooMany : Str} {NTooMany fITooMany ccTooMany cdTooMany : Addr} {bsTooMany bmTooMany sbTooMany : List Value} {snTooMany : List Str} {abTooMany : Bool} {coTooMany : Option Bool} {ddTooMany : Option Addr} {k0TooMany k1TooMany k2TooMany k3TooMany k5TooMany : Option Value}
    {ocTooMany kVTooMany dcTooMany pmTooMany ctTooMany clTooMany xlTooMany : Value} {odTooMany anTooMany cddTooMany xdTooMany : Option Addr} {slTooMany ccsTooMany xsTooMany : Array (Option Value)} {vsTooMany : Array Value} {cldTooMany : ClassData}
    (aCMachine : PySem.W.nsIn K mainGlobals "Machine" = some (some (.ref CMachine)))
    (gCEdits : PySem.W.nsIn K mainGlobals "Edits" = some none)
    (gCReading : PySem.W.nsIn K mainGlobals "Reading" = some none)
    (gCRule : PySem.W.nsIn K mainGlobals "Rule" = some none)
    (gCTable : PySem.W.nsIn K mainGlobals "Table" = some none)
    (g_MOST_KEYS : PySem.W.nsIn K mainGlobals "MOST_KEYS" = some (some (.int 12 tk_MOST_KEYS)))
    (b_enumerate : PySem.W.nsIn K mainGlobals "enumerate" = some none)
    (b_int : PySem.W.nsIn K mainGlobals "int" = some none)
    (b_isinstance : PySem.W.nsIn K mainGlobals "isinstance" = some none)
    (b_len : PySem.W.nsIn K mainGlobals "len" = some none)
    (b_list : PySem.W.nsIn K mainGlobals "list" = some none)
    (b_min : PySem.W.nsIn K mainGlobals "min" = some none)
    (b_range : PySem.W.nsIn K mainGlobals "range" = some none)
    (b_set : PySem.W.nsIn K mainGlobals "set" = some none)
    (b_sorted : PySem.W.nsIn K mainGlobals "sorted" = some none)
    (b_str : PySem.W.nsIn K mainGlobals "str" = some none)
    (b_sum : PySem.W.nsIn K mainGlobals "sum" = some none)
    (b_tuple : PySem.W.nsIn K mainGlobals "tuple" = some none)
    (a_law_pen : PySem.W.nsIn K mainGlobals "_law_pen" = some (some (.ref f_law_pen)))
    (l_law_pen : K.lookup f_law_pen = some ⟨oc_law_pen, od_law_pen, .func (PySem.W.fnOf "_law_pen" "_law_pen" (defArgs s__law_pen) (defBody s__law_pen) (defScope s__law_pen) .none kV_law_pen dc_law_pen pm_law_pen an_law_pen cd_law_pen ct_law_pen), sl_law_pen⟩)
    (c_law_pen : PySem.W.codeIn K cd_law_pen "_law_pen" = true)
    (k_law_pen : PySem.W.keepIn K (.ref f_law_pen) = true)
    (a_law_draw : PySem.W.nsIn K mainGlobals "_law_draw" = some (some (.ref f_law_draw)))
    (l_law_draw : K.lookup f_law_draw = some ⟨oc_law_draw, od_law_draw, .func (PySem.W.fnOf "_law_draw" "_law_draw" (defArgs s__law_draw) (defBody s__law_draw) (defScope s__law_draw) .none kV_law_draw dc_law_draw pm_law_draw an_law_draw cd_law_draw ct_law_draw), sl_law_draw⟩)
    (c_law_draw : PySem.W.codeIn K cd_law_draw "_law_draw" = true)
    (k_law_draw : PySem.W.keepIn K (.ref f_law_draw) = true)
    (a_law_signs : PySem.W.nsIn K mainGlobals "_law_signs" = some (some (.ref f_law_signs)))
    (l_law_signs : K.lookup f_law_signs = some ⟨oc_law_signs, od_law_signs, .func (PySem.W.fnOf "_law_signs" "_law_signs" (defArgs s__law_signs) (defBody s__law_signs) (defScope s__law_signs) .none kV_law_signs dc_law_signs pm_law_signs an_law_signs cd_law_signs ct_law_signs), sl_law_signs⟩)
    (c_law_signs : PySem.W.codeIn K cd_law_signs "_law_signs" = true)
    (k_law_signs : PySem.W.keepIn K (.ref f_law_signs) = true)
    (a_law_pick : PySem.W.nsIn K mainGlobals "_law_pick" = some (some (.ref f_law_pick)))
    (l_law_pick : K.lookup f_law_pick = some ⟨oc_law_pick, od_law_pick, .func (PySem.W.fnOf "_law_pick" "_law_pick" (defArgs s__law_pick) (defBody s__law_pick) (defScope s__law_pick) .none kV_law_pick dc_law_pick pm_law_pick an_law_pick cd_law_pick ct_law_pick), sl_law_pick⟩)
    (c_law_pick : PySem.W.codeIn K cd_law_pick "_law_pick" = true)
    (k_law_pick : PySem.W.keepIn K (.ref f_law_pick) = true)
    (a_law_keys : PySem.W.nsIn K mainGlobals "_law_keys" = some (some (.ref f_law_keys)))
    (l_law_keys : K.lookup f_law_keys = some ⟨oc_law_keys, od_law_keys, .func (PySem.W.fnOf "_law_keys" "_law_keys" (defArgs s__law_keys) (defBody s__law_keys) (defScope s__law_keys) .none kV_law_keys dc_law_keys pm_law_keys an_law_keys cd_law_keys ct_law_keys), sl_law_keys⟩)
    (c_law_keys : PySem.W.codeIn K cd_law_keys "_law_keys" = true)
    (k_law_keys : PySem.W.keepIn K (.ref f_law_keys) = true)
    (a_law_tables : PySem.W.nsIn K mainGlobals "_law_tables" = some (some (.ref f_law_tables)))
    (l_law_tables : K.lookup f_law_tables = some ⟨oc_law_tables, od_law_tables, .func (PySem.W.fnOf "_law_tables" "_law_tables" (defArgs s__law_tables) (defBody s__law_tables) (defScope s__law_tables) .none kV_law_tables dc_law_tables pm_law_tables an_law_tables cd_law_tables ct_law_tables), sl_law_tables⟩)
    (c_law_tables : PySem.W.codeIn K cd_law_tables "_law_tables" = true)
    (k_law_tables : PySem.W.keepIn K (.ref f_law_tables) = true)
    (acheck_rows : PySem.W.nsIn K mainGlobals "check_rows" = some (some (.ref fcheck_rows)))
    (lcheck_rows : K.lookup fcheck_rows = some ⟨occheck_rows, odcheck_rows, .func (PySem.W.fnOf "check_rows" "check_rows" (defArgs s_check_rows) (defBody s_check_rows) (defScope s_check_rows) .none kVcheck_rows dccheck_rows pmcheck_rows ancheck_rows cdcheck_rows ctcheck_rows), slcheck_rows⟩)
    (ccheck_rows : PySem.W.codeIn K cdcheck_rows "check_rows" = true)
    (kcheck_rows : PySem.W.keepIn K (.ref fcheck_rows) = true)
    (aascending : PySem.W.nsIn K mainGlobals "ascending" = some (some (.ref fascending)))
    (lascending : K.lookup fascending = some ⟨ocascending, odascending, .func (PySem.W.fnOf "ascending" "ascending" (defArgs s_ascending) (defBody s_ascending) (defScope s_ascending) .none kVascending dcascending pmascending anascending cdascending ctascending), slascending⟩)
    (cascending : PySem.W.codeIn K cdascending "ascending" = true)
    (kascending : PySem.W.keepIn K (.ref fascending) = true)
    (akeys_in : PySem.W.nsIn K mainGlobals "keys_in" = some (some (.ref fkeys_in)))
    (lkeys_in : K.lookup fkeys_in = some ⟨ockeys_in, odkeys_in, .func (PySem.W.fnOf "keys_in" "keys_in" (defArgs s_keys_in) (defBody s_keys_in) (defScope s_keys_in) .none kVkeys_in dckeys_in pmkeys_in ankeys_in cdkeys_in ctkeys_in), slkeys_in⟩)
    (ckeys_in : PySem.W.codeIn K cdkeys_in "keys_in" = true)
    (kkeys_in : PySem.W.keepIn K (.ref fkeys_in) = true)
    (aMachine_init_v1 : PySem.W.findIn K (.ref CMachine) "__init__" = some (some (.ref fMachine_init_v1)))
    (iMachine_init_v1 : PySem.W.isFn K (.ref fMachine_init_v1) = true)
    (lMachine_init_v1 : K.lookup fMachine_init_v1 = some ⟨ocMachine_init_v1, odMachine_init_v1, .func (PySem.W.fnOf "__init__" "Machine.__init__" (defArgs s_Machine_init_v1) (defBody s_Machine_init_v1) (defScope s_Machine_init_v1) .none kVMachine_init_v1 dcMachine_init_v1 pmMachine_init_v1 anMachine_init_v1 cdMachine_init_v1 ctMachine_init_v1), slMachine_init_v1⟩)
    (cMachine_init_v1 : PySem.W.codeIn K cdMachine_init_v1 "Machine.__init__" = true)
    (kMachine_init_v1 : PySem.W.keepIn K (.ref fMachine_init_v1) = true)
    (a_law_told_v7 : PySem.W.nsIn K mainGlobals "_law_told" = some (some (.ref f_law_told_v7)))
    (l_law_told_v7 : K.lookup f_law_told_v7 = some ⟨oc_law_told_v7, od_law_told_v7, .func (PySem.W.fnOf "_law_told" "_law_told" (defArgs s__law_told_v7) (defBody s__law_told_v7) (defScope s__law_told_v7) .none kV_law_told_v7 dc_law_told_v7 pm_law_told_v7 an_law_told_v7 cd_law_told_v7 ct_law_told_v7), sl_law_told_v7⟩)
    (c_law_told_v7 : PySem.W.codeIn K cd_law_told_v7 "_law_told" = true)
    (k_law_told_v7 : PySem.W.keepIn K (.ref f_law_told_v7) = true)
    (a_law_due_v9 : PySem.W.nsIn K mainGlobals "_law_due" = some (some (.ref f_law_due_v9)))
    (l_law_due_v9 : K.lookup f_law_due_v9 = some ⟨oc_law_due_v9, od_law_due_v9, .func (PySem.W.fnOf "_law_due" "_law_due" (defArgs s__law_due_v9) (defBody s__law_due_v9) (defScope s__law_due_v9) .none kV_law_due_v9 dc_law_due_v9 pm_law_due_v9 an_law_due_v9 cd_law_due_v9 ct_law_due_v9), sl_law_due_v9⟩)
    (c_law_due_v9 : PySem.W.codeIn K cd_law_due_v9 "_law_due" = true)
    (k_law_due_v9 : PySem.W.keepIn K (.ref f_law_due_v9) = true)
    (alaw_v47 : PySem.W.nsIn K mainGlobals "law" = some (some (.ref flaw_v47)))
    (llaw_v47 : K.lookup flaw_v47 = some ⟨oclaw_v47, odlaw_v47, .func (PySem.W.fnOf "law" "law" (defArgs s_law_v47) (defBody s_law_v47) (defScope s_law_v47) .none kVlaw_v47 dclaw_v47 pmlaw_v47 anlaw_v47 cdlaw_v47 ctlaw_v47), sllaw_v47⟩)
    (claw_v47 : PySem.W.codeIn K cdlaw_v47 "law" = true)
    (klaw_v47 : PySem.W.keepIn K (.ref flaw_v47) = true)
    (aCBadMachine : PySem.W.nsIn K mainGlobals "BadMachine" = some (some (.ref CBadMachine)))
    (aCTooMany : PySem.W.nsIn K mainGlobals "TooMany" = some (some (.ref CTooMany)))
    (aCMissError : PySem.W.nsIn K mainGlobals "MissError" = some (some (.ref CMissError)))
    (oCBadMachine : K.lookup CBadMachine = some (excClassObj nmBadMachine qBadMachine CBadMachine NBadMachine bsBadMachine bmBadMachine true snBadMachine sbBadMachine abBadMachine coBadMachine ddBadMachine k0BadMachine k1BadMachine k2BadMachine k3BadMachine k5BadMachine "ValueError.__new__"))
    (rCBadMachine : PySem.HandSPX.refsVE bmBadMachine = true)
    (cldBadMachine : PySem.W.clsIn K CBadMachine = some cldBadMachine)
    (saEBadMachine : PySem.W.findIn K (.ref CBadMachine) "__setattr__" = some (some (.builtin "object.__setattr__")))
    (gaEBadMachine : PySem.W.findIn K (.ref CBadMachine) "__getattribute__" = some (some (.builtin "BaseException.__getattribute__")))
    (ggEBadMachine : PySem.W.findIn K (.ref CBadMachine) "__getattr__" = some none)
    (hcEBadMachine : PySem.W.findIn K (.ref CBadMachine) "__class__" = some (some (.builtin "object.__class__")))
    (iCEBadMachine : PySem.W.findIn K (.ref CBadMachine) "__init__" = some (some (.ref fIBadMachine)))
    (tyEBadMachine : PySem.W.typeIn K (.ref CBadMachine) = some (.type "type"))
    (kcEBadMachine : PySem.W.keepIn K (.ref CBadMachine) = true)
    (hdEBadMachine : PySem.W.hasDictIn K CBadMachine = true)
    (bxEBadMachine : PySem.W.subIn K (.ref CBadMachine) (.type "BaseException") = some true)
    (veEBadMachine : PySem.W.subIn K (.ref CBadMachine) (.type "ValueError") = some true)
    (moEBadMachine : PySem.W.mroIn K CBadMachine (.type "object") = some true)
    (msEBadMachine : PySem.W.mroIn K CBadMachine (.ref CBadMachine) = some true)
    (tiEBadMachine : PySem.W.typeIn K (.ref fIBadMachine) = some (.type "function"))
    (lEBadMachine : K.lookup fIBadMachine = some ⟨ocBadMachine, odBadMachine, .func (PySem.W.fnX "__init__" "BadMachine.__init__" (defArgs s_EBadMachine) (defBody s_EBadMachine) (defScope s_EBadMachine) [("__class__", ccBadMachine)] .none kVBadMachine dcBadMachine pmBadMachine anBadMachine (.ref cdBadMachine) ctBadMachine), slBadMachine⟩)
    (cdEBadMachine : PySem.W.codeIn K (.ref cdBadMachine) "BadMachine.__init__" = true)
    (flEBadMachine : K.lookup cdBadMachine = some ⟨clBadMachine, cddBadMachine, .fields vsBadMachine, ccsBadMachine⟩)
    (vsEBadMachine : ∃ file tf, vsBadMachine[2]? = some (.str file tf) ∧ ((l.prog.main.file : Str) == file) = true)
    (ccEBadMachine : K.lookup ccBadMachine = some ⟨xlBadMachine, xdBadMachine, .cell (some (.ref CBadMachine)), xsBadMachine⟩)
    (suEBadMachine : PySem.W.ks_superIn K CBadMachine CBadMachine "__init__" = some (some (.builtin "ValueError.__init__")))
    (fEBadMachine_state : PySem.W.findIn K (.ref CBadMachine) "state" = some none)
    (fEBadMachine_place : PySem.W.findIn K (.ref CBadMachine) "place" = some none)
    (oCTooMany : K.lookup CTooMany = some (excClassObj nmTooMany qTooMany CTooMany NTooMany bsTooMany bmTooMany true snTooMany sbTooMany abTooMany coTooMany ddTooMany k0TooMany k1TooMany k2TooMany k3TooMany k5TooMany "ValueError.__new__"))
    (rCTooMany : PySem.HandSPX.refsVE bmTooMany = true)
    (cldTooMany : PySem.W.clsIn K CTooMany = some cldTooMany)
    (saETooMany : PySem.W.findIn K (.ref CTooMany) "__setattr__" = some (some (.builtin "object.__setattr__")))
    (gaETooMany : PySem.W.findIn K (.ref CTooMany) "__getattribute__" = some (some (.builtin "BaseException.__getattribute__")))
    (ggETooMany : PySem.W.findIn K (.ref CTooMany) "__getattr__" = some none)
    (hcETooMany : PySem.W.findIn K (.ref CTooMany) "__class__" = some (some (.builtin "object.__class__")))
    (iCETooMany : PySem.W.findIn K (.ref CTooMany) "__init__" = some (some (.ref fITooMany)))
    (tyETooMany : PySem.W.typeIn K (.ref CTooMany) = some (.type "type"))
    (kcETooMany : PySem.W.keepIn K (.ref CTooMany) = true)
    (hdETooMany : PySem.W.hasDictIn K CTooMany = true)
    (bxETooMany : PySem.W.subIn K (.ref CTooMany) (.type "BaseException") = some true)
    (veETooMany : PySem.W.subIn K (.ref CTooMany) (.type "ValueError") = some true)
    (moETooMany : PySem.W.mroIn K CTooMany (.type "object") = some true)
    (msETooMany : PySem.W.mroIn K CTooMany (.ref CTooMany) = some true)
    (tiETooMany : PySem.W.typeIn K (.ref fITooMany) = some (.type "function"))
    (lETooMany : K.lookup fITooMany = some ⟨ocTooMany, odTooMany, .func (PySem.W.fnX "__init__" "TooMany.__init__" (defArgs s_ETooMany) (defBody s_ETooMany) (defScope s_ETooMany) [("__class__", ccTooMany)] .none kVTooMany dcTooMany pmTooMany anTooMany (.ref cdTooMany) ctTooMany), slTooMany⟩)
    (cdETooMany : PySem.W.codeIn K (.ref cdTooMany) "TooMany.__init__" = true)
    (flETooMany : K.lookup cdTooMany = some ⟨clTooMany, cddTooMany, .fields vsTooMany, ccsTooMany⟩)
    (vsETooMany : ∃ file tf, vsTooMany[2]? = some (.str file tf) ∧ ((l.prog.main.file : Str) == file) = true)
    (ccETooMany : K.lookup ccTooMany = some ⟨xlTooMany, xdTooMany, .cell (some (.ref CTooMany)), xsTooMany⟩)
    (suETooMany : PySem.W.ks_superIn K CTooMany CTooMany "__init__" = some (some (.builtin "ValueError.__init__")))
    (fETooMany_what : PySem.W.findIn K (.ref CTooMany) "what" = some none)
    (bxEMissError : PySem.W.subIn K (.ref CMissError) (.type "BaseException") = some true)
    (tyEMissError : PySem.W.typeIn K (.ref CMissError) = some (.type "type"))
    (hdEMissError : PySem.W.hasDictIn K CMissError = true)
    (su_BadMachine_BadMachine : PySem.W.subIn K (.ref CBadMachine) (.ref CBadMachine) = some true)
    (su_BadMachine_MissError : PySem.W.subIn K (.ref CBadMachine) (.ref CMissError) = some true)
    (su_BadMachine_TooMany : PySem.W.subIn K (.ref CBadMachine) (.ref CTooMany) = some false)
    (su_TooMany_BadMachine : PySem.W.subIn K (.ref CTooMany) (.ref CBadMachine) = some false)
    (su_TooMany_MissError : PySem.W.subIn K (.ref CTooMany) (.ref CMissError) = some true)
    (su_TooMany_TooMany : PySem.W.subIn K (.ref CTooMany) (.ref CTooMany) = some true)
    (b_super : PySem.W.nsIn K mainGlobals "super" = some none)
    (opq : PySem.W.nsIn K cStatics "thirdparty.any" = some none)
    (toS : (l.prog.main.scope.names.lookup ("super" : Str)).isSome = false)
    (xgc : PySem.W.specialIn K (.builtin "object.__class__") "__get__" = some (some (.builtin "getset_descriptor.__get__")))
    (xtc : PySem.W.takesIn K (.builtin "object.__class__") = some true)
    (pgMachine : PySem.W.plainGet K CMachine Str.empty = true)
    (hdMachine : PySem.W.hasDictIn K CMachine = true)
    (poMachine : PySem.W.plainOver K CMachine = true)
    (saMachine : PySem.W.findIn K (.ref CMachine) "__setattr__" = some (some (.builtin "object.__setattr__")))
    (mkMachine : PySem.W.makesIn K CMachine = true)
    (kcMachine : PySem.W.keepIn K (.ref CMachine) = true)
    (nMachine_all_keys : PySem.W.findIn K (.ref CMachine) "all_keys" = some none)
    (nMachine_ends : PySem.W.findIn K (.ref CMachine) "ends" = some none)
    (nMachine_rows : PySem.W.findIn K (.ref CMachine) "rows" = some none)
    (nMachine_signs : PySem.W.findIn K (.ref CMachine) "signs" = some none) :
    ∃ fd : FuncData, (∀ (s : Shared) (v : Value), BindsTo s fd ⟨[v], []⟩ [("script", v)]) ∧ ∀ base : Heap, K.In base → base.Ns mainGlobals mg → FnOk l.prog w K mg base (L2.CX l.prog w) 7 fa fd ["script"] (spD ⟨K, mg⟩ 1 f_law_v47) := by
  have mCMachine := PySem.W.mg_of X G aCMachine
  have mGEdits := PySem.W.mg_none_of X G gCEdits
  have mGReading := PySem.W.mg_none_of X G gCReading
  have mGRule := PySem.W.mg_none_of X G gCRule
  have mGTable := PySem.W.mg_none_of X G gCTable
  have kMachine : Cls K CMachine := ⟨pgMachine, hdMachine, poMachine, saMachine⟩
  have mEBadMachine := PySem.W.mg_of X G aCBadMachine
  have mETooMany := PySem.W.mg_of X G aCTooMany
  have mEMissError := PySem.W.mg_of X G aCMissError
  have oxEBadMachine : OexC K CBadMachine := ⟨⟨_, _, _, _, _, _, _, _, _, _, _, _, _, _, _, oCBadMachine, rCBadMachine⟩, saEBadMachine, bxEBadMachine, tyEBadMachine, kcEBadMachine⟩
  have ekEBadMachine : ErrK K CBadMachine := ⟨oxEBadMachine, ⟨gaEBadMachine, ggEBadMachine, bxEBadMachine, hdEBadMachine⟩, ⟨gaEBadMachine, ggEBadMachine, bxEBadMachine, hdEBadMachine, hcEBadMachine, xgc, xtc, moEBadMachine⟩⟩
  have oxETooMany : OexC K CTooMany := ⟨⟨_, _, _, _, _, _, _, _, _, _, _, _, _, _, _, oCTooMany, rCTooMany⟩, saETooMany, bxETooMany, tyETooMany, kcETooMany⟩
  have ekETooMany : ErrK K CTooMany := ⟨oxETooMany, ⟨gaETooMany, ggETooMany, bxETooMany, hdETooMany⟩, ⟨gaETooMany, ggETooMany, bxETooMany, hdETooMany, hcETooMany, xgc, xtc, moETooMany⟩⟩
  have T : Txt K mg := ⟨PySem.W.mg_none_of X G b_enumerate, PySem.W.mg_none_of X G b_int, PySem.W.mg_none_of X G b_isinstance, PySem.W.mg_none_of X G b_len, PySem.W.mg_none_of X G b_list, PySem.W.mg_none_of X G b_min, PySem.W.mg_none_of X G b_range, PySem.W.mg_none_of X G b_set, PySem.W.mg_none_of X G b_sorted, PySem.W.mg_none_of X G b_str, PySem.W.mg_none_of X G b_sum, PySem.W.mg_none_of X G b_tuple, ⟨_, PySem.W.mg_of X G g_MOST_KEYS, _, rfl⟩, (FldOk.cons mCMachine kMachine nMachine_all_keys (FldOk.skip mGRule FldOk.nil)), (FldOk.cons mCMachine kMachine nMachine_ends FldOk.nil), (FldOk.cons mCMachine kMachine nMachine_rows (FldOk.skip mGEdits (FldOk.skip mGTable (FldOk.skip mGReading FldOk.nil)))), (FldOk.cons mCMachine kMachine nMachine_signs (FldOk.skip mGRule (FldOk.skip mGEdits (FldOk.skip mGTable FldOk.nil)))), (all_cons (ekEBadMachine.toC mEBadMachine (all_cons fEBadMachine_state (all_cons fEBadMachine_place all_nil)) veEBadMachine) (all_cons (ekETooMany.toC mETooMany (all_cons fETooMany_what all_nil) veETooMany) all_nil)), (all_cons (all_cons (errP_mk mEBadMachine mEBadMachine bxEBadMachine hdEBadMachine tyEBadMachine su_BadMachine_BadMachine (by decide)) (all_cons (errP_mk mEBadMachine mETooMany bxETooMany hdETooMany tyETooMany su_BadMachine_TooMany (by decide)) all_nil)) (all_cons (all_cons (errP_mk mETooMany mEBadMachine bxEBadMachine hdEBadMachine tyEBadMachine su_TooMany_BadMachine (by decide)) (all_cons (errP_mk mETooMany mETooMany bxETooMany hdETooMany tyETooMany su_TooMany_TooMany (by decide)) all_nil)) all_nil)), (all_cons ⟨_, mEBadMachine⟩ (all_cons ⟨_, mETooMany⟩ all_nil)), (all_cons (all_cons (kitP_mk mEBadMachine mEMissError hdEMissError tyEMissError su_BadMachine_BadMachine su_BadMachine_MissError (by decide)) all_nil) (all_cons (all_cons (kitP_mk mETooMany mEMissError hdEMissError tyEMissError su_TooMany_TooMany su_TooMany_MissError (by decide)) all_nil) all_nil)), (all_cons ⟨_, mEMissError⟩ all_nil)⟩
  have e := hfa.symm.trans (PySem.W.mg_of X G alaw_v47)
  cases e
  have F_law_pen := fun_mk (st := s__law_pen) l_law_pen c_law_pen k_law_pen
  have B_law_pen := F_law_pen.binds (ps := ["script"]) fun _ _ _ _ _ _ us hl => match us, hl with | [_], _ => rfl
  have F_law_draw := fun_mk (st := s__law_draw) l_law_draw c_law_draw k_law_draw
  have B_law_draw := F_law_draw.binds (ps := ["pen", "many"]) fun _ _ _ _ _ _ us hl => match us, hl with | [_, _], _ => rfl
  have F_law_signs := fun_mk (st := s__law_signs) l_law_signs c_law_signs k_law_signs
  have B_law_signs := F_law_signs.binds (ps := ["pen", "many"]) fun _ _ _ _ _ _ us hl => match us, hl with | [_, _], _ => rfl
  have F_law_pick := fun_mk (st := s__law_pick) l_law_pick c_law_pick k_law_pick
  have B_law_pick := F_law_pick.binds (ps := ["pen", "items"]) fun _ _ _ _ _ _ us hl => match us, hl with | [_, _], _ => rfl
  have F_law_keys := fun_mk (st := s__law_keys) l_law_keys c_law_keys k_law_keys
  have B_law_keys := F_law_keys.binds (ps := ["pen", "words"]) fun _ _ _ _ _ _ us hl => match us, hl with | [_, _], _ => rfl
  have F_law_tables := fun_mk (st := s__law_tables) l_law_tables c_law_tables k_law_tables
  have B_law_tables := F_law_tables.binds (ps := ["pen", "signs", "most", "words"]) fun _ _ _ _ _ _ us hl => match us, hl with | [_, _, _, _], _ => rfl
  have Fcheck_rows := fun_mk (st := s_check_rows) lcheck_rows ccheck_rows kcheck_rows
  have Bcheck_rows := Fcheck_rows.binds (ps := ["rows"]) fun _ _ _ _ _ _ us hl => match us, hl with | [_], _ => rfl
  have Fascending := fun_mk (st := s_ascending) lascending cascending kascending
  have Bascending := Fascending.binds (ps := ["words"]) fun _ _ _ _ _ _ us hl => match us, hl with | [_], _ => rfl
  have Fkeys_in := fun_mk (st := s_keys_in) lkeys_in ckeys_in kkeys_in
  have Bkeys_in := Fkeys_in.binds (ps := ["rows", "ends"]) fun _ _ _ _ _ _ us hl => match us, hl with | [_, _], _ => rfl
  have FMachine_init_v1 := fun_mk (st := s_Machine_init_v1) lMachine_init_v1 cMachine_init_v1 kMachine_init_v1
  have BMachine_init_v1 := FMachine_init_v1.binds (ps := ["self", "signs", "rows", "ends"]) fun _ _ _ _ _ _ us hl => match us, hl with | [_, _, _, _], _ => rfl
  have F_law_told_v7 := fun_mk (st := s__law_told_v7) l_law_told_v7 c_law_told_v7 k_law_told_v7
  have B_law_told_v7 := F_law_told_v7.binds (ps := ["signs", "tables"]) fun _ _ _ _ _ _ us hl => match us, hl with | [_, _], _ => rfl
  have F_law_due_v9 := fun_mk (st := s__law_due_v9) l_law_due_v9 c_law_due_v9 k_law_due_v9
  have B_law_due_v9 := F_law_due_v9.binds (ps := ["tables"]) fun _ _ _ _ _ _ us hl => match us, hl with | [_], _ => rfl
  have Flaw_v47 := fun_mk (st := s_law_v47) llaw_v47 claw_v47 klaw_v47
  refine ⟨PySem.W.fnOf "law" "law" (defArgs s_law_v47) (defBody s_law_v47) (defScope s_law_v47) .none kVlaw_v47 dclaw_v47 pmlaw_v47 anlaw_v47 cdlaw_v47 ctlaw_v47, fun s v => .of_eq rfl, fun base _ _ => ?_⟩
  have SBadMachine : SupF l.prog K CBadMachine fIBadMachine cdBadMachine ccBadMachine "BadMachine.__init__" (defArgs s_EBadMachine) (defBody s_EBadMachine) (defScope s_EBadMachine) _ := ⟨⟨_, _, _, _, _, _, _, _, rfl, lEBadMachine⟩, cdEBadMachine, (by obtain ⟨file, tf, h1, h2⟩ := vsEBadMachine; exact ⟨_, _, _, _, file, tf, flEBadMachine, h1, h2⟩), ⟨_, _, _, ccEBadMachine⟩, ⟨_, cldBadMachine⟩, toS, suEBadMachine, msEBadMachine, veEBadMachine, opq⟩
  have e_BadMachine : ErrMk l.prog w K mg base 1 "BadMachine" ["state", "place"] := err2 oxEBadMachine mEBadMachine iCEBadMachine tiEBadMachine SBadMachine (Binds.all fun us hl => match us, hl with | [_, _, _], _ => rfl) (NdefX.nscope_by (by decide +kernel)) ⟨_, rfl, rfl⟩ (PySem.W.mg_none_of X G b_super) (by decide +kernel) ⟨_, _, _, _, _, _, _, _, fun env => ⟨_, _, _, _, _, _, _, _, rfl, ⟨_, rfl⟩, rfl⟩⟩ fEBadMachine_state fEBadMachine_place
  have STooMany : SupF l.prog K CTooMany fITooMany cdTooMany ccTooMany "TooMany.__init__" (defArgs s_ETooMany) (defBody s_ETooMany) (defScope s_ETooMany) _ := ⟨⟨_, _, _, _, _, _, _, _, rfl, lETooMany⟩, cdETooMany, (by obtain ⟨file, tf, h1, h2⟩ := vsETooMany; exact ⟨_, _, _, _, file, tf, flETooMany, h1, h2⟩), ⟨_, _, _, ccETooMany⟩, ⟨_, cldTooMany⟩, toS, suETooMany, msETooMany, veETooMany, opq⟩
  have e_TooMany : ErrMk l.prog w K mg base 1 "TooMany" ["what"] := err1 oxETooMany mETooMany iCETooMany tiETooMany STooMany (Binds.all fun us hl => match us, hl with | [_, _], _ => rfl) (NdefX.nscope_by (by decide +kernel)) ⟨_, rfl, rfl⟩ (PySem.W.mg_none_of X G b_super) (by decide +kernel) ⟨_, _, _, _, fun env => ⟨_, _, _, _, _, _, _, _, rfl, ⟨_, rfl⟩, rfl⟩⟩ fETooMany_what
  have P_law_pen := p__law_pen (P := l.prog) (w := w) (base := base) F_law_pen T 
  have c__law_pen : DefOk l.prog w K mg base 1 "_law_pen" 1 f__law_pen := ⟨_, _, _, PySem.W.mg_of X G a_law_pen, k_law_pen, B_law_pen, rfl, P_law_pen⟩
  have P_law_draw := p__law_draw (P := l.prog) (w := w) (base := base) F_law_draw T 
  have c__law_draw : DefOk l.prog w K mg base 1 "_law_draw" 2 f__law_draw := ⟨_, _, _, PySem.W.mg_of X G a_law_draw, k_law_draw, B_law_draw, rfl, P_law_draw⟩
  have P_law_signs := p__law_signs (P := l.prog) (w := w) (base := base) F_law_signs T c__law_draw
  have c__law_signs : DefOk l.prog w K mg base 2 "_law_signs" 2 f__law_signs := ⟨_, _, _, PySem.W.mg_of X G a_law_signs, k_law_signs, B_law_signs, rfl, P_law_signs⟩
  have P_law_pick := p__law_pick (P := l.prog) (w := w) (base := base) F_law_pick T c__law_draw
  have c__law_pick : DefOk l.prog w K mg base 2 "_law_pick" 2 f__law_pick := ⟨_, _, _, PySem.W.mg_of X G a_law_pick, k_law_pick, B_law_pick, rfl, P_law_pick⟩
  have P_law_keys := p__law_keys (P := l.prog) (w := w) (base := base) F_law_keys T c__law_pick
  have c__law_keys : DefOk l.prog w K mg base 3 "_law_keys" 2 f__law_keys := ⟨_, _, _, PySem.W.mg_of X G a_law_keys, k_law_keys, B_law_keys, rfl, P_law_keys⟩
  have P_law_tables := p__law_tables (P := l.prog) (w := w) (base := base) F_law_tables T c__law_draw c__law_keys
  have c__law_tables : DefOk l.prog w K mg base 4 "_law_tables" 4 f__law_tables := ⟨_, _, _, PySem.W.mg_of X G a_law_tables, k_law_tables, B_law_tables, rfl, P_law_tables⟩
  have Pcheck_rows := p_check_rows (P := l.prog) (w := w) (base := base) Fcheck_rows T e_BadMachine
  have c_check_rows : DefOk l.prog w K mg base 3 "check_rows" 1 f_check_rows := ⟨_, _, _, PySem.W.mg_of X G acheck_rows, kcheck_rows, Bcheck_rows, rfl, Pcheck_rows⟩
  have Pascending := p_ascending (P := l.prog) (w := w) (base := base) Fascending T 
  have c_ascending : DefOk l.prog w K mg base 1 "ascending" 1 f_ascending := ⟨_, _, _, PySem.W.mg_of X G aascending, kascending, Bascending, rfl, Pascending⟩
  have Pkeys_in := p_keys_in (P := l.prog) (w := w) (base := base) Fkeys_in T c_ascending
  have c_keys_in : DefOk l.prog w K mg base 2 "keys_in" 2 f_keys_in := ⟨_, _, _, PySem.W.mg_of X G akeys_in, kkeys_in, Bkeys_in, rfl, Pkeys_in⟩
  have PMachine_init_v1 := p_Machine_init_v1 (P := l.prog) (w := w) (base := base) FMachine_init_v1 T c_check_rows c_ascending c_keys_in e_TooMany
  have c_Machine_init_v1 : MakeOk l.prog w K mg base 4 "Machine" 4 f_Machine_init_v1 := ⟨_, _, _, _, mCMachine, ⟨mkMachine, aMachine_init_v1, iMachine_init_v1, kcMachine⟩, BMachine_init_v1, rfl, PMachine_init_v1⟩
  have P_law_told_v7 := p__law_told_v7 (P := l.prog) (w := w) (base := base) F_law_told_v7 T c_Machine_init_v1
  have c__law_told_v7 : DefOk l.prog w K mg base 6 "_law_told" 2 f__law_told_v7 := ⟨_, _, _, PySem.W.mg_of X G a_law_told_v7, k_law_told_v7, B_law_told_v7, rfl, P_law_told_v7⟩
  have P_law_due_v9 := p__law_due_v9 (P := l.prog) (w := w) (base := base) F_law_due_v9 T 
  have c__law_due_v9 : DefOk l.prog w K mg base 1 "_law_due" 1 f__law_due_v9 := ⟨_, _, _, PySem.W.mg_of X G a_law_due_v9, k_law_due_v9, B_law_due_v9, rfl, P_law_due_v9⟩
  exact p_law_v47 (P := l.prog) (w := w) (base := base) Flaw_v47 T c__law_pen c__law_signs c__law_draw c__law_tables c__law_pick c__law_told_v7 c__law_due_v9
end K03
-- S_pen
namespace Nv
open PySem PySem.Spec PyProof.Rows L2
def mixed (at_ cell : Int) : Int :=
  let a := (cell % 2147483587 * 48271 + 40014 * at_ * at_ + 59 * at_ + 17) % 2147483629
  let b := a * (a + 69621) % 2147483549
  b * b % 2147483579 / 32
def cellAt (p : Pn) : Int := if p.cells ≠ [] then p.cells.getD (p.at_ % (p.cells.length : Nat)).toNat 0 else 41 * p.at_ + 23
def draw (p : Pn) (m : Int) : Int × Pn :=
  if m ≤ p.left then (p.left % m, { p with left := p.left / m })
  else if p.at_ < (p.cells.length : Nat) ∧ 10 ^ 18 ≤ cellAt p then ((cellAt p - 10 ^ 18) % m, { p with at_ := p.at_ + 1, left := (cellAt p - 10 ^ 18) / m })
  else (mixed p.at_ (cellAt p) % m, { p with at_ := p.at_ + 1 })
theorem draw_ok (p : Pn) (m : Int) (hm : 0 < m) (hm2 : m.natAbs.log2 < 9000) (h0 : 0 ≤ p.at_) (h1 : p.at_ < 2 ^ 64) :
    f__law_draw [.own p.o, .dat (.int m)] = .ok (.dat (.int (draw p m).1)) [.own (some 0) (draw p m).2.o, .dat (.int m)] := by
  by_cases h : m ≤ p.left
  · simp_all?! only [↓u__law_draw, ↓d__law_draw, h, hm, hm2, draw]
  · have k1 : mulOk 41 p.at_ = true := mulOk_l (by decide) (by decide)
    have k2 : mulOk (cellAt p % 2147483587) 48271 = true := mulOk_r (by decide) (by decide)
    have k3 : mulOk 40014 p.at_ = true := mulOk_l (by decide) (by decide)
    have k4 : mulOk (40014 * p.at_) p.at_ = true := mulOk_r (by omega) (by omega)
    have k5 : mulOk 59 p.at_ = true := mulOk_l (by decide) (by decide)
    have kp : (0 : Int) ≤ 18 ∧ (18 : Int) ≤ 1000000 ∧ (10 : Int).natAbs < 2 ^ 64 := by decide
    have kt : (18 : Int).toNat = 18 := rfl
    have k32 : (0 : Int) < 32 ∧ (32 : Int).natAbs.log2 < 9000 := by decide
    have q1 : (0 : Int) < 2147483587 := by decide
    have q2 : (0 : Int) < 2147483629 := by decide
    have q3 : (0 : Int) < 2147483549 := by decide
    have q4 : (0 : Int) < 2147483579 := by decide
    have k6 : ∀ x y : Int, mulOk (x % 2147483629) y = true := fun x y => mulOk_l (by omega) (by omega)
    have k7 : ∀ x y : Int, mulOk (x % 2147483549) y = true := fun x y => mulOk_l (by omega) (by omega)
    by_cases hc : p.cells = []
    · have e1 : cellAt p = 41 * p.at_ + 23 := by unfold cellAt; rw [if_neg (fun z => z hc)]
      have k2' : mulOk ((41 * p.at_ + 23) % 2147483587) 48271 = true := by rw [← e1]; exact k2
      have k8 : ¬ p.at_ < ((0 : Nat) : Int) := by omega
      have k9 : ¬ p.at_ < (([] : List Int).length : Nat) := k8
      simp_all?! only [↓u__law_draw, ↓d__law_draw, h, hm, hm2, k1, k2', k3, k4, k5, kp, kt, k32, q1, q2, q3, q4, k6, k7, ne_ints, hc, k8, k9, ne_eq, not_true_eq_false, draw, e1, mixed, false_and, and_self]
    · have hl : 0 < p.cells.length := List.length_pos_iff.mpr hc
      have hb : p.at_ % (p.cells.length : Nat) < (p.cells.length : Nat) := Int.emod_lt_of_pos _ (by omega)
      have hb0 : 0 ≤ p.at_ % (p.cells.length : Nat) := Int.emod_nonneg _ (by omega)
      have hx : p.cells[(p.at_ % (p.cells.length : Nat)).toNat]? = some (cellAt p) := by
        unfold cellAt
        rw [if_pos hc, List.getD_eq_getElem?_getD, List.getElem?_eq_getElem (by omega)]
        rfl
      have e2 : atI (p.cells.map D.int) (p.at_ % (p.cells.length : Nat)) = some (.int (cellAt p)) := by
        rw [atI_map, atI_at hb0 hx]
        rfl
      have q5 : (0 : Int) < (p.cells.length : Nat) := by omega
      by_cases h8 : p.at_ < (p.cells.length : Nat)
      · by_cases h9 : (10 : Int) ^ 18 ≤ cellAt p
        · simp_all?! only [↓u__law_draw, ↓d__law_draw, h, hm, hm2, k1, k2, k3, k4, k5, kp, kt, k32, q1, q2, q3, q4, q5, k6, k7, ne_ints, hc, h8, h9, e2, ne_eq, not_false_eq_true, draw, mixed, and_self]
        · simp_all?! only [↓u__law_draw, ↓d__law_draw, h, hm, hm2, k1, k2, k3, k4, k5, kp, kt, k32, q1, q2, q3, q4, q5, k6, k7, ne_ints, hc, h8, h9, e2, ne_eq, not_false_eq_true, draw, mixed, and_false, and_self]
      · simp_all?! only [↓u__law_draw, ↓d__law_draw, h, hm, hm2, k1, k2, k3, k4, k5, kp, kt, k32, q1, q2, q3, q4, q5, k6, k7, ne_ints, hc, h8, e2, ne_eq, not_false_eq_true, draw, mixed, false_and, and_self]
/-- k draws are left -/
structure PB (p : Pn) (k : Nat) : Prop where
  lo : 0 ≤ p.at_
  hi : p.at_ + (k : Nat) < 2 ^ 64
theorem PB.mono {p : Pn} {j k : Nat} (h : PB p k) (hj : j ≤ k) : PB p j := ⟨h.lo, by have := h.hi; omega⟩
theorem draw_pb {p : Pn} {m : Int} {k : Nat} (h : PB p (k + 1)) : PB (draw p m).2 k := by
  have h1 := h.lo
  have h2 := h.hi
  unfold draw
  split
  · exact ⟨h1, by show p.at_ + (k : Nat) < 2 ^ 64; omega⟩
  · split
    · exact ⟨by show 0 ≤ p.at_ + 1; omega, by show p.at_ + 1 + (k : Nat) < 2 ^ 64; omega⟩
    · exact ⟨by show 0 ≤ p.at_ + 1; omega, by show p.at_ + 1 + (k : Nat) < 2 ^ 64; omega⟩
theorem draw_lt {p : Pn} {m : Int} (hm : 0 < m) : 0 ≤ (draw p m).1 ∧ (draw p m).1 < m := by
  unfold draw
  split
  · exact ⟨Int.emod_nonneg _ (by omega), Int.emod_lt_of_pos _ hm⟩
  · split
    · exact ⟨Int.emod_nonneg _ (by omega), Int.emod_lt_of_pos _ hm⟩
    · exact ⟨Int.emod_nonneg _ (by omega), Int.emod_lt_of_pos _ hm⟩
def drawN (p : Pn) (n : Nat) : Nat × Pn := ((draw p (n : Nat)).1.toNat, (draw p (n : Nat)).2)
theorem drawN_lt {p : Pn} {n : Nat} (hn : 0 < n) : (drawN p n).1 < n := by
  have h := draw_lt (p := p) (m := (n : Nat)) (by omega)
  unfold drawN
  dsimp only
  omega
theorem drawN_pb {p : Pn} {n k : Nat} (h : PB p (k + 1)) : PB (drawN p n).2 k := draw_pb h
theorem log_lt {n : Nat} (h : n < 2 ^ 62) : ((n : Nat) : Int).natAbs.log2 < 9000 := by
  rw [Int.natAbs_natCast]
  by_cases z : n = 0
  · subst z; decide
  · have := (Nat.log2_lt z).mpr h
    omega
theorem drawN_ok (p : Pn) (n : Nat) (hn : 0 < n) (hn2 : n < 2 ^ 62) (h : PB p 1) (m : Int) (hm : m = (n : Nat)) :
    f__law_draw [.own p.o, .dat (.int m)] = .ok (.dat (.int ((drawN p n).1 : Nat))) [.own (some 0) (drawN p n).2.o, .dat (.int m)] := by
  subst hm
  have h1 := draw_lt (p := p) (m := (n : Nat)) (by omega)
  have h2 := h.hi
  rw [draw_ok p (n : Nat) (by omega) (log_lt hn2) h.lo (by omega)]
  unfold drawN
  dsimp only
  rw [Int.toNat_of_nonneg h1.1]
theorem pick_ok (p : Pn) (d : D) (n : Nat) (av : D) (hl : gLen d = some (.dat (.int (n : Nat)))) (hn : 0 < n) (hn2 : n < 2 ^ 62) (h : PB p 1) (hx : gIx d (.int ((drawN p n).1 : Nat)) = some (.dat av)) :
    f__law_pick [.own p.o, .dat d] = .ok (.dat av) [.own (some 0) (drawN p n).2.o, .dat d] := by
  have hd := drawN_ok p n hn hn2 h _ rfl
  simp_all?! only [↓u__law_pick, ↓d__law_pick, hl, hd, hx]
theorem le_sl {n : Nat} (h : n ≤ 1000) : n ≤ sizeLine := Nat.le_trans h (by decide)
/-- an item of a list -/
theorem pickL_ok {α : Type} (e : α → D) (p : Pn) (l : List α) (x : α) (hl : l.length ≤ 1000) (h : PB p 1) (hx : l[(drawN p l.length).1]? = some x) :
    f__law_pick [.own p.o, .dat (.lst (l.map e))] = .ok (.dat (e x)) [.own (some 0) (drawN p l.length).2.o, .dat (.lst (l.map e))] := by
  have hk := (List.getElem?_eq_some_iff.mp hx).1
  refine pick_ok p (.lst (l.map e)) l.length _ (by rw [len_lst, List.length_map]) (by omega) (by omega) h ?_
  rw [ix_lst, atI_map, atI_nat hx]
  rfl
def letters : Tx := [97, 98, 99, 100, 101, 102, 103, 104, 105, 106, 107, 108, 109, 110, 111, 112, 113, 114, 115, 116, 117, 118, 119, 120, 121, 122]
theorem ofs_letters : Str.ofString "abcdefghijklmnopqrstuvwxyz" = SX.S letters := rfl
structure Sg where
  left : Tx
  found : Tx
  pen : Pn
def sgStep (s : Sg) : Sg :=
  let r := drawN s.pen s.left.length
  ⟨s.left.take r.1 ++ s.left.drop (r.1 + 1), s.found ++ [s.left.getD r.1 0], r.2⟩
def sgL : Nat → Sg → Sg
  | 0, s => s
  | n + 1, s => sgL n (sgStep s)
def signsF (n : Nat) (p : Pn) : Tx × Pn := ((sgL n ⟨letters, [], p⟩).found, (sgL n ⟨letters, [], p⟩).pen)
theorem sgL_fold : ∀ (l : List Nat) (s : Sg), l.foldl (fun s _ => sgStep s) s = sgL l.length s
  | [], _ => rfl
  | _ :: l, s => sgL_fold l (sgStep s)
/-- what holds of them -/
structure SgI (s : Sg) (n k : Nat) : Prop where
  len : s.left.length + s.found.length = 26
  left : n ≤ s.left.length
  nd : (s.left ++ s.found).Nodup
  pb : PB s.pen (k + n)
theorem perm_mv (A B F : Tx) (x : Nat) : (A ++ x :: B ++ F).Perm (A ++ B ++ (F ++ [x])) := by
  have e1 : A ++ x :: B ++ F = A ++ x :: (B ++ F) := by rw [List.append_assoc]; rfl
  have e2 : A ++ B ++ (F ++ [x]) = (A ++ (B ++ F)) ++ [x] := by rw [List.append_assoc, List.append_assoc, List.append_assoc]
  rw [e1, e2]
  exact (List.perm_middle (a := x) (l₁ := A) (l₂ := B ++ F)).trans (List.perm_append_comm (l₁ := [x]) (l₂ := A ++ (B ++ F)))
theorem sgStep_i {s : Sg} {n k : Nat} (h : SgI s (n + 1) k) : SgI (sgStep s) n k ∧ (sgStep s).found.length = s.found.length + 1 := by
  have h1 := h.left
  have h2 := h.len
  have hk := drawN_lt (p := s.pen) (n := s.left.length) (by omega)
  have hd : s.left = s.left.take (drawN s.pen s.left.length).1 ++ s.left[(drawN s.pen s.left.length).1] :: s.left.drop ((drawN s.pen s.left.length).1 + 1) := by
    rw [← List.drop_eq_getElem_cons hk, List.take_append_drop]
  have hg : s.left.getD (drawN s.pen s.left.length).1 0 = s.left[(drawN s.pen s.left.length).1] := by
    rw [List.getD_eq_getElem?_getD, List.getElem?_eq_getElem hk]
    rfl
  refine ⟨⟨?_, ?_, ?_, drawN_pb (k := k + n) h.pb⟩, ?_⟩
  · unfold sgStep
    dsimp only
    rw [List.length_append, List.length_append, List.length_take, List.length_drop, List.length_singleton]
    omega
  · unfold sgStep
    dsimp only
    rw [List.length_append, List.length_take, List.length_drop]
    omega
  · unfold sgStep
    dsimp only
    rw [hg]
    have nd := h.nd
    rw [hd] at nd
    have p := perm_mv (s.left.take (drawN s.pen s.left.length).1) (s.left.drop ((drawN s.pen s.left.length).1 + 1)) s.found s.left[(drawN s.pen s.left.length).1]
    exact p.nodup nd
  · unfold sgStep
    dsimp only
    rw [List.length_append, List.length_singleton]
theorem sgL_i : ∀ {n : Nat} {s : Sg} {k : Nat}, SgI s n k → SgI (sgL n s) 0 k ∧ (sgL n s).found.length = s.found.length + n
  | 0, s, k, h => ⟨h, rfl⟩
  | n + 1, s, k, h => by
    obtain ⟨h1, h2⟩ := sgStep_i h
    obtain ⟨h3, h4⟩ := sgL_i h1
    exact ⟨h3, by show (sgL n (sgStep s)).found.length = _; rw [h4, h2]; omega⟩
theorem sg0 {n k : Nat} {p : Pn} (hn : n ≤ 26) (h : PB p (k + n)) : SgI ⟨letters, [], p⟩ n k := ⟨rfl, hn, by show (letters ++ []).Nodup; decide, h⟩
theorem signs_len {n : Nat} {p : Pn} (hn : n ≤ 26) (h : PB p n) : (signsF n p).1.length = n := by
  have q := (sgL_i (sg0 (k := 0) hn (by rw [Nat.zero_add]; exact h))).2
  show (sgL n ⟨letters, [], p⟩).found.length = n
  rw [q]
  exact Nat.zero_add n
theorem signs_nd {n : Nat} {p : Pn} (hn : n ≤ 26) (h : PB p n) : (signsF n p).1.Nodup := by
  have q := (sgL_i (sg0 (k := 0) hn (by rw [Nat.zero_add]; exact h))).1.nd
  exact (List.nodup_append.mp q).2.1
theorem signs_pb {n k : Nat} {p : Pn} (hn : n ≤ 26) (h : PB p (k + n)) : PB (signsF n p).2 k := (sgL_i (sg0 hn h)).1.pb
theorem signs_turn (n x : Nat) (xs : List Nat) (s : Sg) (hI : SgI s (x :: xs).length 0) : ∃ Γ1, tName 4 (.int (0 + (x : Nat))) [.own (some 0) s.pen.o, .dat (.int (n : Nat)), .dat (tD s.left), .dat (tD s.found), .un, .un] = some Γ1 ∧
    b__law_signs_1 Γ1 = .nx [.own (some 0) (sgStep s).pen.o, .dat (.int (n : Nat)), .dat (tD (sgStep s).left), .dat (tD (sgStep s).found), .un, .un] := by
  have h1 := hI.left
  have h2 := hI.len
  rw [List.length_cons] at h1
  have hd := drawN_ok s.pen s.left.length (by omega) (by omega) (hI.pb.mono (by rw [List.length_cons]; omega)) _ rfl
  have hk := drawN_lt (p := s.pen) (n := s.left.length) (by omega)
  have hx : atI s.left ((drawN s.pen s.left.length).1 : Nat) = some (s.left.getD (drawN s.pen s.left.length).1 0) := by
    rw [atI_nat (List.getElem?_eq_getElem hk), List.getD_eq_getElem?_getD, List.getElem?_eq_getElem hk]
    rfl
  have l1 : s.left.length ≤ sizeLine := le_sl (by omega)
  have l2 : s.found.length + 1 ≤ sizeLine := le_sl (by omega)
  have l3 : (s.left.take (drawN s.pen s.left.length).1).length + (s.left.drop ((drawN s.pen s.left.length).1 + 1)).length ≤ sizeLine := le_sl (by rw [List.length_take, List.length_drop]; omega)
  have hc : ((drawN s.pen s.left.length).1 : Int) + 1 = ((drawN s.pen s.left.length).1 + 1 : Nat) := by omega
  refine ⟨_, rfl, ?_⟩
  simp_all?! only [↓b__law_signs_1, hd, hx, l1, l2, l3, hc, sgStep, Nat.zero_add]
theorem signs_loop (p : Pn) (n : Nat) (hn : n ≤ 26) (h : PB p n) : forL (tName 4) b__law_signs_1 (rangeD 0 n) [.own (some 0) p.o, .dat (.int (n : Nat)), .dat (tD letters), .dat (tD []), .un, .un] =
    .nx [.own (some 0) (sgL n ⟨letters, [], p⟩).pen.o, .dat (.int (n : Nat)), .dat (tD (sgL n ⟨letters, [], p⟩).left), .dat (tD (sgL n ⟨letters, [], p⟩).found), .un, .un] := by
  have q := forL_eq (g := tName 4) (f := b__law_signs_1) (fun s : Sg => [.own (some 0) s.pen.o, .dat (.int (n : Nat)), .dat (tD s.left), .dat (tD s.found), .un, .un]) (fun i : Nat => .int (0 + (i : Nat))) (fun s _ => sgStep s) (fun l s => SgI s l.length 0)
    (fun x xs s hI => ⟨signs_turn n x xs s hI, (sgStep_i hI).1⟩) (List.range n) ⟨letters, [], p⟩ (by rw [List.length_range]; exact sg0 hn (by rw [Nat.zero_add]; exact h))
  rw [sgL_fold, List.length_range] at q
  exact q
theorem signs_ok (p : Pn) (n : Nat) (hn : n ≤ 26) (h : PB p n) : f__law_signs [.own p.o, .dat (.int (n : Nat))] = .ok (.dat (tD (signsF n p).1)) [.own (some 0) (signsF n p).2.o, .dat (.int (n : Nat))] := by
  have hr : rngOk (n : Nat) = true := decide_eq_true (by omega)
  have hf := signs_loop p n hn h
  simp_all?! only [↓u__law_signs, ↓d__law_signs, hr, ofs_letters, hf, signsF]
end Nv
-- S_asc
namespace Nv
open PySem PySem.Spec PyProof.Rows L2
/-- a list or a tuple -/
def sq (b : Bool) (l : List D) : D := if b = true then .tup l else .lst l
theorem items_sq {b : Bool} {l : List D} : itemsD2 (sq b l) = some l := by cases b <;> rfl
def insT (acc : List Tx) (x : Tx) : List Tx := if x ∈ acc then acc else acc ++ [x]
theorem ded_fold : ∀ (l acc : List Tx), ded acc l = l.foldl insT acc
  | [], _ => rfl
  | x :: r, acc => by
    rw [ded, List.foldl_cons]
    unfold insT
    split
    · exact ded_fold r acc
    · exact ded_fold r _
theorem ded_len : ∀ (l acc : List Tx), (ded acc l).length ≤ acc.length + l.length
  | [], acc => by simp [ded]
  | x :: r, acc => by
    rw [ded]
    split
    · have := ded_len r acc
      rw [List.length_cons]; omega
    · have := ded_len r (acc ++ [x])
      rw [List.length_append, List.length_singleton] at this
      rw [List.length_cons]; omega
theorem asc_len (l : List Tx) : (asc l).length ≤ l.length := by
  unfold asc
  rw [(sortT_perm _).length_eq]
  simpa using ded_len l []
def trD : Tx → D × D := fun k => (tD k, .bl true)
theorem dput_tr (acc : List Tx) (x : Tx) : dput (acc.map trD) (tD x) (.bl true) = (insT acc x).map trD := by
  unfold dput insT
  have e : ((acc.map trD).any fun p => p.1.eq (tD x)) = decide (x ∈ acc) := by
    rw [List.any_map, Bool.eq_iff_iff, List.any_eq_true, decide_eq_true_eq]
    constructor
    · rintro ⟨y, hy, h⟩
      have h2 : (tD y).eq (tD x) = true := h
      rw [eq_S, decide_eq_true_eq] at h2
      subst h2; exact hy
    · intro h
      exact ⟨x, h, by show (tD x).eq (tD x) = true; rw [eq_S]; simp⟩
  rw [e]
  by_cases h : x ∈ acc
  · rw [if_pos (by simpa using h), if_pos h, List.map_map]
    refine List.map_congr_left fun y _ => ?_
    show (if (tD y).eq (tD x) = true then (tD y, D.bl true) else (tD y, D.bl true)) = (tD y, D.bl true)
    split <;> rfl
  · rw [if_neg (by simpa using h), if_neg h, List.map_append]
    rfl
theorem asc_dict (words : D) (l : List Tx) (hl : l.length ≤ 1000) (Γ0 : Ev) (e0 : Γ0 = [.dat words, .un]) :
    loopN (bodyD q_ascending_1 q_ascending_2) Γ0 (tName 1) yesT (l.map tD) [] Γ0 = some ((ded [] l).map trD, Γ0) := by
  subst e0
  have q := loopN_go (Γ0 := [.dat words, .un]) (Γ := [.dat words, .un]) (gd := tName 1) (t := yesT) (body := bodyD q_ascending_1 q_ascending_2) tD (fun acc x => (match acc with | acc => dput acc (tD x) (.bl true))) (fun r acc => ∃ a : List Tx, acc = a.map trD ∧ a.length + r.length ≤ 1000)
    (fun x xs acc ⟨a, ha, hn⟩ => ?_) l [] ⟨[], rfl, by simpa using hl⟩
  · rw [q]
    have f : ∀ (l a : List Tx), l.foldl (fun (acc : List (D × D)) x => (match acc with | acc => dput acc (tD x) (.bl true))) (a.map trD) = (l.foldl insT a).map trD := by
      intro l
      induction l with
      | nil => intro a; rfl
      | cons x l ih => intro a; rw [List.foldl_cons, List.foldl_cons]; show List.foldl _ (dput (a.map trD) (tD x) (.bl true)) l = _; rw [dput_tr, ih]
    have f2 := f l []
    rw [List.map_nil] at f2
    rw [f2, ded_fold]
  · subst ha
    rw [List.length_cons] at hn
    refine ⟨⟨[.dat words, .dat (tD x)], rfl, [.dat words, .dat (tD x)], rfl, [.dat words, .dat (tD x)], ?_, rfl⟩, insT a x, dput_tr a x, ?_⟩
    · have hs : (a.map trD).length < sizeLine := by rw [List.length_map, sl_eq]; omega
      show (if (tD x).key.isSome = true ∧ (a.map trD).length < sizeLine then some (dput (a.map trD) (tD x) (.bl true), _) else none) = _
      rw [if_pos ⟨rfl, hs⟩]
    · unfold insT
      split
      · omega
      · rw [List.length_append, List.length_singleton]; omega
theorem asc_strs (words : D) (l : List Tx) (hl : l.length ≤ 1000) (Γ0 : Ev) (e0 : Γ0 = [.dat words, .un]) :
    compL Γ0 (tName 1) yesT q_ascending_3 (l.map tD) [] Γ0 = some (l.map tD, Γ0) := by
  subst e0
  rw [compL_mf tD (fun _ => true) tD (fun _ => True) (fun x _ => ?_) l (fun _ _ => trivial) (by rw [sl_eq]; omega)]
  · rw [List.filter_eq_self.mpr fun _ _ => rfl]
  · refine ⟨[.dat words, .dat (tD x)], [.dat words, .dat (tD x)], rfl, rfl, fun _ => ⟨[.dat words, .dat (tD x)], ?_, rfl⟩, fun h => nomatch h⟩
    simp_all! only [↓q_ascending_3]
theorem tr_fst (l : List Tx) : List.map (fun x : D × D => x.fst) (l.map trD) = l.map tD := by
  rw [List.map_map]
  rfl
theorem ascending_sq (b : Bool) (l : List Tx) (hl : l.length ≤ 1000) (hd : (ded [] l).length < 64) : f_ascending [.dat (sq b (l.map tD))] = .ok (.dat (.tup ((asc l).map tD))) [.dat (sq b (l.map tD))] := by
  have h1 := asc_dict (sq b (l.map tD)) l hl _ rfl
  have hd2 : (ded [] l).length ≤ l.length := by simpa using ded_len l []
  have h2 := asc_strs (sq b (l.map tD)) (ded [] l) (by omega) _ rfl
  have h3 : gSort2 (.lst ((ded [] l).map tD)) = some (.own (.lst ((asc l).map tD))) := by
    unfold gSort2
    rw [gSort_S (l := ded [] l) hd]
    rfl
  simp_all! only [↓u_ascending, ↓d_ascending, items_sq, h1, h2, h3, tr_fst]
end Nv
-- S_gen
namespace Nv
open PySem PySem.Spec PyProof.Rows L2
theorem enumD_mp {α : Type} (f : α → D) : ∀ (l : List α) (k : Nat), enumD k (l.map f) = (l.zipIdx k).map fun p => .tup [.int (p.2 : Nat), f p.1]
  | [], _ => rfl
  | x :: l, k => by
    rw [List.map_cons, enumD, enumD_mp f l, List.zipIdx_cons, List.map_cons]
theorem makeR_mk {cn : Str} {g : List AV → FR} {os : List OV} {Γ : Ev} {ds : List D} {t : Option Nat} {o : O} {outs : Ev} (hd : dats os = some ds) (h : g (.own (.ins cn []) :: ds.map .dat) = .ok (.dat .non) (.own t o :: outs)) : makeR cn g os Γ = .ok (.own o) Γ := by
  unfold makeR
  rw [hd]
  dsimp only
  rw [h]
section
variable {ι : Type} {g : TgF} {f : Ev → Out}
end
end Nv
-- S_mach
namespace Nv
open PySem PySem.Spec PyProof.Rows L2
abbrev Way := Nat × List Tx
def wayO (w : Way) : D := .tup [.int (w.1 : Nat), .tup ((asc w.2).map tD)]
def rowO (r : List Way) : D := .tup (r.map wayO)
def rowsO (rows : List (List Way)) : D := .tup (rows.map rowO)
def endO (e : List Tx) : D := .tup ((asc e).map tD)
def endsO (ends : List (List Tx)) : D := .tup (ends.map endO)
def givenK (rows : List (List Way)) : List Tx := rows.flatMap fun r => r.flatMap fun w => asc w.2
def allL (rows : List (List Way)) (ends : List (List Tx)) : List Tx := givenK rows ++ ends.flatMap asc
def machF (sg : Tx) (rows : List (List Way)) (ends : List (List Tx)) : List (Str × D) :=
  [(("signs" : Str), tD sg), (("rows" : Str), rowsO rows), (("ends" : Str), endsO ends), (("all_keys" : Str), .tup ((asc (allL rows ends)).map tD))]
theorem asc_small (l : List Tx) (h : l.length ≤ 60) : (ded [] l).length < 64 := by
  have := ded_len l []
  rw [List.length_nil] at this
  omega
theorem flat_sing {α β : Type} (f : α → β) (l : List α) : l.flatMap (fun x => [f x]) = l.map f := by
  induction l with
  | nil => rfl
  | cons a l ih => rw [List.flatMap_cons, ih]; rfl
theorem map_flat {α β γ : Type} (f : β → γ) (g : α → List β) (l : List α) : (l.flatMap g).map f = l.flatMap fun x => (g x).map f := by
  induction l with
  | nil => rfl
  | cons a l ih => rw [List.flatMap_cons, List.map_append, ih, List.flatMap_cons]
theorem asc_le {l : List Tx} {n : Nat} (h : l.length ≤ n) : (asc l).length ≤ n := Nat.le_trans (asc_len l) h
theorem keys3 (G5 G2 R E : Slot) (l : List Tx) (S4 : Slot) (acc : List D) (hl : acc.length + l.length ≤ sizeLine) (hR : ∃ d, R = .dat d) (hE : ∃ d, E = .dat d) (h2 : G2 = .un) (h4 : S4 = .un ∨ ∃ d, S4 = .dat d) (h3 : G5 = .un ∨ ∃ d, G5 = .dat d) (S3 : Slot) (hs3 : S3 = .un ∨ ∃ d, S3 = .dat d) :
    loopN (bodyN q_keys_in_1 []) [R, E, G2, S3, S4, G5, .un] (tName 6) yesT (l.map tD) acc [R, E, G2, S3, S4, G5, .un] = some (acc ++ l.map tD, [R, E, G2, S3, S4, G5, .un]) := by
  rw [loopN_fm (Γ0 := [R, E, G2, S3, S4, G5, .un]) (gd := tName 6) (t := yesT) (body := bodyN q_keys_in_1 []) tD (fun x => [tD x]) (fun _ => True) (fun x _ => ⟨[R, E, G2, S3, S4, G5, .dat (tD x)], rfl, .inl ⟨[R, E, G2, S3, S4, G5, .dat (tD x)], rfl, fun acc ha => ⟨[R, E, G2, S3, S4, G5, .dat (tD x)], ?_, ?_⟩⟩⟩) l acc (fun _ _ => trivial) (by rw [flat_sing, List.length_map]; exact hl), flat_sing]
  · have h1 : acc.length < sizeLine := ha
    show (if acc.length < sizeLine then some (acc ++ [tD x], _) else none) = _
    rw [if_pos h1]
  · obtain ⟨d1, rfl⟩ := hR
    obtain ⟨d2, rfl⟩ := hE
    subst h2
    rcases h4 with rfl | ⟨d4, rfl⟩ <;> rcases h3 with rfl | ⟨d3, rfl⟩ <;> rcases hs3 with rfl | ⟨d5, rfl⟩ <;> rfl
theorem keys3b (l : List Tx) (R E G5 : D) (S2 : Slot) (h2 : ∃ o, S2 = .own none o) (acc : List D) (hl : acc.length + l.length ≤ sizeLine) :
    loopN (bodyN q_keys_in_2 []) [.dat R, .dat E, S2, .un, .un, .dat G5, .un] (tName 6) yesT (l.map tD) acc [.dat R, .dat E, S2, .un, .un, .dat G5, .un] = some (acc ++ l.map tD, [.dat R, .dat E, S2, .un, .un, .dat G5, .un]) := by
  obtain ⟨o, rfl⟩ := h2
  rw [loopN_fm (Γ0 := [.dat R, .dat E, .own none o, .un, .un, .dat G5, .un]) (gd := tName 6) (t := yesT) (body := bodyN q_keys_in_2 []) tD (fun x => [tD x]) (fun _ => True) (fun x _ => ⟨[.dat R, .dat E, .own none o, .un, .un, .dat G5, .dat (tD x)], rfl, .inl ⟨[.dat R, .dat E, .own none o, .un, .un, .dat G5, .dat (tD x)], rfl, fun acc ha => ⟨[.dat R, .dat E, .own none o, .un, .un, .dat G5, .dat (tD x)], ?_, rfl⟩⟩⟩) l acc (fun _ _ => trivial) (by rw [flat_sing, List.length_map]; exact hl), flat_sing]
  have h1 : acc.length < sizeLine := ha
  show (if acc.length < sizeLine then some (acc ++ [tD x], _) else none) = _
  rw [if_pos h1]
theorem keys2 (R E : D) (r : List Way) (hw : ∀ w ∈ r, w.2.length ≤ 60) (acc : List D) (hl : acc.length + (r.flatMap fun w => (asc w.2).map tD).length ≤ sizeLine) :
    loopN (bodyN q_keys_in_1 [⟨bare (seqI (slotB 5)), (tName 6), yesT, [6]⟩]) [.dat R, .dat E, .un, .dat (rowO r), .un, .un, .un] (tTup (tsCons (tName 4) (tsCons (tName 5) tsNil))) yesT (r.map wayO) acc [.dat R, .dat E, .un, .dat (rowO r), .un, .un, .un] =
      some (acc ++ r.flatMap (fun w => (asc w.2).map tD), [.dat R, .dat E, .un, .dat (rowO r), .un, .un, .un]) := by
  refine loopN_fm wayO (fun w => (asc w.2).map tD) (fun w => w.2.length ≤ 60) (fun w hw => ⟨[.dat R, .dat E, .un, .dat (rowO r), .dat (.int (w.1 : Nat)), .dat (.tup ((asc w.2).map tD)), .un], rfl, .inl ⟨_, rfl, fun acc ha => ⟨[.dat R, .dat E, .un, .dat (rowO r), .dat (.int (w.1 : Nat)), .dat (.tup ((asc w.2).map tD)), .un], ?_, rfl⟩⟩⟩) r acc hw hl
  exact keys3 (.dat (.tup ((asc w.2).map tD))) .un (.dat R) (.dat E) (asc w.2) (.dat (.int (w.1 : Nat))) acc (by simpa using ha) ⟨_, rfl⟩ ⟨_, rfl⟩ rfl (.inr ⟨_, rfl⟩) (.inr ⟨_, rfl⟩) (.dat (rowO r)) (.inr ⟨_, rfl⟩)
theorem keys1 (R E : D) (rows : List (List Way)) (hw : ∀ r ∈ rows, ∀ w ∈ r, w.2.length ≤ 60) (acc : List D) (hl : acc.length + (givenK rows).length ≤ sizeLine) :
    loopN (bodyN q_keys_in_1 [⟨bare (seqI (slotB 3)), (tTup (tsCons (tName 4) (tsCons (tName 5) tsNil))), yesT, [4, 5, 6]⟩, ⟨bare (seqI (slotB 5)), (tName 6), yesT, [6]⟩]) [.dat R, .dat E, .un, .un, .un, .un, .un] (tName 3) yesT (rows.map rowO) acc [.dat R, .dat E, .un, .un, .un, .un, .un] =
      some (acc ++ (givenK rows).map tD, [.dat R, .dat E, .un, .un, .un, .un, .un]) := by
  have e : (givenK rows).map tD = rows.flatMap fun r => r.flatMap fun w => (asc w.2).map tD := by
    unfold givenK
    rw [map_flat]
    congr 1
    funext r
    rw [map_flat]
  rw [e]
  refine loopN_fm (gd := tName 3) (t := yesT) (body := bodyN q_keys_in_1 [⟨bare (seqI (slotB 3)), (tTup (tsCons (tName 4) (tsCons (tName 5) tsNil))), yesT, [4, 5, 6]⟩, ⟨bare (seqI (slotB 5)), (tName 6), yesT, [6]⟩]) (Γ0 := [.dat R, .dat E, .un, .un, .un, .un, .un]) (Γ := [.dat R, .dat E, .un, .un, .un, .un, .un]) rowO (fun r => r.flatMap fun w => (asc w.2).map tD) (fun r => ∀ w ∈ r, w.2.length ≤ 60) (fun r hr => ⟨[.dat R, .dat E, .un, .dat (rowO r), .un, .un, .un], rfl, .inl ⟨_, rfl, fun acc ha => ⟨[.dat R, .dat E, .un, .dat (rowO r), .un, .un, .un], ?_, rfl⟩⟩⟩) rows acc hw (by rw [← e, List.length_map]; exact hl)
  exact keys2 R E r hr acc ha
theorem keysE (R E : D) (S2 : Slot) (h2 : ∃ o, S2 = .own none o) (ends : List (List Tx)) (acc : List D) (hl : acc.length + (ends.flatMap asc).length ≤ sizeLine) :
    loopN (bodyN q_keys_in_2 [⟨bare (seqI (slotB 5)), (tName 6), yesT, [6]⟩]) [.dat R, .dat E, S2, .un, .un, .un, .un] (tName 5) yesT (ends.map endO) acc [.dat R, .dat E, S2, .un, .un, .un, .un] =
      some (acc ++ (ends.flatMap asc).map tD, [.dat R, .dat E, S2, .un, .un, .un, .un]) := by
  have e : (ends.flatMap asc).map tD = ends.flatMap fun e => (asc e).map tD := map_flat _ _ _
  rw [e]
  obtain ⟨o, rfl⟩ := h2
  refine loopN_fm endO (fun e => (asc e).map tD) (fun _ => True) (fun x _ => ⟨[.dat R, .dat E, .own none o, .un, .un, .dat (endO x), .un], rfl, .inl ⟨_, rfl, fun acc ha => ⟨[.dat R, .dat E, .own none o, .un, .un, .dat (endO x), .un], ?_, rfl⟩⟩⟩) ends acc (fun _ _ => trivial) (by rw [← e, List.length_map]; exact hl)
  exact keys3b (asc x) R E (endO x) _ ⟨_, rfl⟩ acc (by simpa using ha)
end Nv
-- S_mach2
namespace Nv
open PySem PySem.Spec PyProof.Rows L2
end Nv
-- S_m1
-- classes: Machine
namespace Nv
open PySem PySem.Spec PyProof.Rows L2
def wyI (b : Bool) (w : Way) : D := .tup [.int (w.1 : Nat), sq b (w.2.map tD)]
def rwI (b : Bool) (r : List Way) : D := .lst (r.map (wyI b))
def rwsI (b : Bool) (rows : List (List Way)) : D := .lst (rows.map (rwI b))
def enI' (b : Bool) (e : List Tx) : D := sq b (e.map tD)
def ensI (c b : Bool) (ends : List (List Tx)) : D := sq c (ends.map (enI' b))
theorem zip_mem {α : Type} {l : List α} {p : α × Nat} {k : Nat} (h : p ∈ l.zipIdx k) : p.1 ∈ l := by
  obtain ⟨_, _, e⟩ := List.mem_zipIdx h
  rw [e]; exact List.getElem_mem _
theorem check_rows2 (b : Bool) (rows : List (List Way)) (hg : ∀ r ∈ rows, ∀ w ∈ r, w.1 < rows.length) : f_check_rows [.dat (rwsI b rows)] = .ok (.dat .non) [.dat (rwsI b rows)] := by
  simp_all! only [↓turnF_ap, kF1_ap, ↓turnC_ap, ↓kC1_ap, ↓kC2_ap, ↓kC3_ap, ↓turnN_ap, ↓kN1_ap, ↓kN2_ap, ↓kN3_ap, ↓bodyN_nil, ↓bodyN_cons, ↓kBN_ap, ↓kBC_ap, ↓bodyD_ap, ↓kBD1_ap, ↓kBD2_ap, goes_nx, goes_ct, tc_if, tn_if, fc_Machine_signs, fp_Machine_signs, fg_Machine_signs_0, fg_Machine_signs_1, fg_Machine_signs_2, fg_Machine_signs_3, fc_Machine_rows, fp_Machine_rows, fg_Machine_rows_1, fg_Machine_rows_2, fg_Machine_rows_3, fc_Machine_ends, fp_Machine_ends, fg_Machine_ends_2, fg_Machine_ends_3, fc_Machine_all_keys, fp_Machine_all_keys, fg_Machine_all_keys_3, fm_Machine_after, fm_Machine_far_keys, fm_Machine_keys_of, fm_Machine_read, ↓u_check_rows, ↓d_check_rows, rwsI]
  rw [enumD_mp, forL_k (fun p : List Way × Nat => .tup [.int (p.2 : Nat), rwI b p.1]) (rows.zipIdx 0) (fun p hp => by
    simp_all! only [↓turnF_ap, kF1_ap, ↓turnC_ap, ↓kC1_ap, ↓kC2_ap, ↓kC3_ap, ↓turnN_ap, ↓kN1_ap, ↓kN2_ap, ↓kN3_ap, ↓bodyN_nil, ↓bodyN_cons, ↓kBN_ap, ↓kBC_ap, ↓bodyD_ap, ↓kBD1_ap, ↓kBD2_ap, goes_nx, goes_ct, tc_if, tn_if, fc_Machine_signs, fp_Machine_signs, fg_Machine_signs_0, fg_Machine_signs_1, fg_Machine_signs_2, fg_Machine_signs_3, fc_Machine_rows, fp_Machine_rows, fg_Machine_rows_1, fg_Machine_rows_2, fg_Machine_rows_3, fc_Machine_ends, fp_Machine_ends, fg_Machine_ends_2, fg_Machine_ends_3, fc_Machine_all_keys, fp_Machine_all_keys, fg_Machine_all_keys_3, fm_Machine_after, fm_Machine_far_keys, fm_Machine_keys_of, fm_Machine_read, ↓b_check_rows_2, rwI]
    rw [enumD_mp, forL_k (fun q : Way × Nat => .tup [.int (q.2 : Nat), wyI b q.1]) (p.1.zipIdx 0) (fun q hq => by
      have := hg _ (zip_mem hp) _ (zip_mem hq)
      simp_all! only [↓turnF_ap, kF1_ap, ↓turnC_ap, ↓kC1_ap, ↓kC2_ap, ↓kC3_ap, ↓turnN_ap, ↓kN1_ap, ↓kN2_ap, ↓kN3_ap, ↓bodyN_nil, ↓bodyN_cons, ↓kBN_ap, ↓kBC_ap, ↓bodyD_ap, ↓kBD1_ap, ↓kBD2_ap, goes_nx, goes_ct, tc_if, tn_if, fc_Machine_signs, fp_Machine_signs, fg_Machine_signs_0, fg_Machine_signs_1, fg_Machine_signs_2, fg_Machine_signs_3, fc_Machine_rows, fp_Machine_rows, fg_Machine_rows_1, fg_Machine_rows_2, fg_Machine_rows_3, fc_Machine_ends, fp_Machine_ends, fg_Machine_ends_2, fg_Machine_ends_3, fc_Machine_all_keys, fp_Machine_all_keys, fg_Machine_all_keys_3, fm_Machine_after, fm_Machine_far_keys, fm_Machine_keys_of, fm_Machine_read, ↓b_check_rows_1, wyI])]
    simp_all! only [↓turnF_ap, kF1_ap, ↓turnC_ap, ↓kC1_ap, ↓kC2_ap, ↓kC3_ap, ↓turnN_ap, ↓kN1_ap, ↓kN2_ap, ↓kN3_ap, ↓bodyN_nil, ↓bodyN_cons, ↓kBN_ap, ↓kBC_ap, ↓bodyD_ap, ↓kBD1_ap, ↓kBD2_ap, goes_nx, goes_ct, tc_if, tn_if, fc_Machine_signs, fp_Machine_signs, fg_Machine_signs_0, fg_Machine_signs_1, fg_Machine_signs_2, fg_Machine_signs_3, fc_Machine_rows, fp_Machine_rows, fg_Machine_rows_1, fg_Machine_rows_2, fg_Machine_rows_3, fc_Machine_ends, fp_Machine_ends, fg_Machine_ends_2, fg_Machine_ends_3, fc_Machine_all_keys, fp_Machine_all_keys, fg_Machine_all_keys_3, fm_Machine_after, fm_Machine_far_keys, fm_Machine_keys_of, fm_Machine_read])]
  simp_all! only [↓turnF_ap, kF1_ap, ↓turnC_ap, ↓kC1_ap, ↓kC2_ap, ↓kC3_ap, ↓turnN_ap, ↓kN1_ap, ↓kN2_ap, ↓kN3_ap, ↓bodyN_nil, ↓bodyN_cons, ↓kBN_ap, ↓kBC_ap, ↓bodyD_ap, ↓kBD1_ap, ↓kBD2_ap, goes_nx, goes_ct, tc_if, tn_if, fc_Machine_signs, fp_Machine_signs, fg_Machine_signs_0, fg_Machine_signs_1, fg_Machine_signs_2, fg_Machine_signs_3, fc_Machine_rows, fp_Machine_rows, fg_Machine_rows_1, fg_Machine_rows_2, fg_Machine_rows_3, fc_Machine_ends, fp_Machine_ends, fg_Machine_ends_2, fg_Machine_ends_3, fc_Machine_all_keys, fp_Machine_all_keys, fg_Machine_all_keys_3, fm_Machine_after, fm_Machine_far_keys, fm_Machine_keys_of, fm_Machine_read]
end Nv
-- S_mach3
namespace Nv
open PySem PySem.Spec PyProof.Rows L2
end Nv
-- S_mach4
namespace Nv
open PySem PySem.Spec PyProof.Rows L2
end Nv
-- S_m2
-- classes: Machine
namespace Nv
open PySem PySem.Spec PyProof.Rows L2
def mcO (sg : Tx) (rows : List (List Way)) (ends : List (List Tx)) : O := .ins ("Machine" : Str) (machF sg rows ends)
end Nv
-- S_inb
-- classes: Machine
-- n84
namespace Nv
open PySem PySem.Spec PyProof.Rows L2
theorem asc_dictB (words : D) (l : List Tx) (hl : l.length ≤ 100000) (Γ0 : Ev) (e0 : Γ0 = [.dat words, .un]) :
    loopN (bodyD q_ascending_1 q_ascending_2) Γ0 (tName 1) yesT (l.map tD) [] Γ0 = some ((ded [] l).map trD, Γ0) := by
  subst e0
  have q := loopN_go (Γ0 := [.dat words, .un]) (Γ := [.dat words, .un]) (gd := tName 1) (t := yesT) (body := bodyD q_ascending_1 q_ascending_2) tD (fun acc x => (match acc with | acc => dput acc (tD x) (.bl true))) (fun r acc => ∃ a : List Tx, acc = a.map trD ∧ a.length + r.length ≤ 100000)
    (fun x xs acc ⟨a, ha, hn⟩ => ?_) l [] ⟨[], rfl, by simpa using hl⟩
  · rw [q]
    have f : ∀ (l a : List Tx), l.foldl (fun (acc : List (D × D)) x => (match acc with | acc => dput acc (tD x) (.bl true))) (a.map trD) = (l.foldl insT a).map trD := by
      intro l
      induction l with
      | nil => intro a; rfl
      | cons x l ih => intro a; rw [List.foldl_cons, List.foldl_cons]; show List.foldl _ (dput (a.map trD) (tD x) (.bl true)) l = _; rw [dput_tr, ih]
    have f2 := f l []
    rw [List.map_nil] at f2
    rw [f2, ded_fold]
  · subst ha
    rw [List.length_cons] at hn
    refine ⟨⟨[.dat words, .dat (tD x)], rfl, [.dat words, .dat (tD x)], rfl, [.dat words, .dat (tD x)], ?_, rfl⟩, insT a x, dput_tr a x, ?_⟩
    · have hs : (a.map trD).length < sizeLine := by rw [List.length_map, sl_eq]; omega
      show (if (tD x).key.isSome = true ∧ (a.map trD).length < sizeLine then some (dput (a.map trD) (tD x) (.bl true), _) else none) = _
      rw [if_pos ⟨rfl, hs⟩]
    · unfold insT
      split
      · omega
      · rw [List.length_append, List.length_singleton]; omega
theorem ascendingB (l : List Tx) (hl : l.length ≤ 100000) (hd : (ded [] l).length < 64) : f_ascending [.dat (.lst (l.map tD))] = .ok (.dat (.tup ((asc l).map tD))) [.dat (.lst (l.map tD))] := by
  have h1 := asc_dictB (.lst (l.map tD)) l hl _ rfl
  have h2 := asc_strs (.lst (l.map tD)) (ded [] l) (by omega) _ rfl
  have h3 : gSort2 (.lst ((ded [] l).map tD)) = some (.own (.lst ((asc l).map tD))) := by
    unfold gSort2
    rw [gSort_S (l := ded [] l) hd]
    rfl
  simp_all! only [↓turnF_ap, kF1_ap, ↓turnC_ap, ↓kC1_ap, ↓kC2_ap, ↓kC3_ap, ↓turnN_ap, ↓kN1_ap, ↓kN2_ap, ↓kN3_ap, ↓bodyN_nil, ↓bodyN_cons, ↓kBN_ap, ↓kBC_ap, ↓bodyD_ap, ↓kBD1_ap, ↓kBD2_ap, goes_nx, goes_ct, tc_if, tn_if, fc_Machine_signs, fp_Machine_signs, fg_Machine_signs_0, fg_Machine_signs_1, fg_Machine_signs_2, fg_Machine_signs_3, fc_Machine_rows, fp_Machine_rows, fg_Machine_rows_1, fg_Machine_rows_2, fg_Machine_rows_3, fc_Machine_ends, fp_Machine_ends, fg_Machine_ends_2, fg_Machine_ends_3, fc_Machine_all_keys, fp_Machine_all_keys, fg_Machine_all_keys_3, fm_Machine_after, fm_Machine_far_keys, fm_Machine_keys_of, fm_Machine_read, ↓strC_ap, ↓kStrC_ap, strO_str, strO_ex, ↓makeLO_ap, ↓kML_ap, ↓cmO_ap, ↓clsA_ap, ↓kCls_ap, ↓starS_ap, ↓kStarS_ap, ↓enIK_ap, ↓kEnIK_ap, ↓u_ascending, ↓d_ascending, h1, h2, h3, tr_fst]
/-- few different keys in each way and end, fewer than 64 in all -/
structure KeysB (rows : List (List Way)) (ends : List (List Tx)) : Prop where
  way : ∀ r ∈ rows, ∀ w ∈ r, w.2.length ≤ 60
  en : ∀ e ∈ ends, e.length ≤ 60
  row : ∀ r ∈ rows, r.length ≤ 60
  nr : rows.length ≤ 100
  ne : ends.length ≤ 100
  all : (allL rows ends).length ≤ 100000
  ded : (ded [] (allL rows ends)).length < 64
theorem keys_inB (rows : List (List Way)) (ends : List (List Tx)) (h : KeysB rows ends) :
    f_keys_in [.dat (rowsO rows), .dat (endsO ends)] = .ok (.dat (.tup ((asc (allL rows ends)).map tD))) [.dat (rowsO rows), .dat (endsO ends)] := by
  have ha := h.all
  have hd := h.ded
  have hal : (allL rows ends).length = (givenK rows).length + (ends.flatMap asc).length := by unfold allL; rw [List.length_append]
  have h1 := keys1 (rowsO rows) (endsO ends) rows h.way [] (by rw [List.length_nil, sl_eq]; omega)
  have h2 := keysE (rowsO rows) (endsO ends) (.own none (.lst ((givenK rows).map tD))) ⟨_, rfl⟩ ends [] (by rw [List.length_nil, sl_eq]; omega)
  have h3 := ascendingB (allL rows ends) ha (by omega)
  rw [List.nil_append] at h1 h2
  unfold rowsO endsO at h1 h2
  have e1 : (givenK rows).map tD ++ (ends.flatMap asc).map tD = (allL rows ends).map tD := by unfold allL; rw [List.map_append]
  have e2 : ((allL rows ends).map tD).length ≤ 16777216 := by rw [List.length_map]; omega
  simp_all! only [↓turnF_ap, kF1_ap, ↓turnC_ap, ↓kC1_ap, ↓kC2_ap, ↓kC3_ap, ↓turnN_ap, ↓kN1_ap, ↓kN2_ap, ↓kN3_ap, ↓bodyN_nil, ↓bodyN_cons, ↓kBN_ap, ↓kBC_ap, ↓bodyD_ap, ↓kBD1_ap, ↓kBD2_ap, goes_nx, goes_ct, tc_if, tn_if, fc_Machine_signs, fp_Machine_signs, fg_Machine_signs_0, fg_Machine_signs_1, fg_Machine_signs_2, fg_Machine_signs_3, fc_Machine_rows, fp_Machine_rows, fg_Machine_rows_1, fg_Machine_rows_2, fg_Machine_rows_3, fc_Machine_ends, fp_Machine_ends, fg_Machine_ends_2, fg_Machine_ends_3, fc_Machine_all_keys, fp_Machine_all_keys, fg_Machine_all_keys_3, fm_Machine_after, fm_Machine_far_keys, fm_Machine_keys_of, fm_Machine_read, ↓strC_ap, ↓kStrC_ap, strO_str, strO_ex, ↓makeLO_ap, ↓kML_ap, ↓cmO_ap, ↓clsA_ap, ↓kCls_ap, ↓starS_ap, ↓kStarS_ap, ↓enIK_ap, ↓kEnIK_ap, ↓u_keys_in, ↓d_keys_in, rowsO, endsO, h1, h2, h3, List.append_nil, e1, e2]
theorem initB (sg : Tx) (rows : List (List Way)) (ends : List (List Tx)) (h : KeysB rows ends) (hg : ∀ r ∈ rows, ∀ w ∈ r, w.1 < rows.length) :
    f_Machine_init_v1 [.own (.ins ("Machine" : Str) []), .dat (tD sg), .dat (rwsI false rows), .dat (ensI false false ends)] =
      if (asc (allL rows ends)).length ≤ 12 then .ok (.dat .non) [.own (some 0) (.ins ("Machine" : Str) (machF sg rows ends)), .dat (tD sg), .dat (rwsI false rows), .dat (ensI false false ends)]
      else .ex ("TooMany" : Str) [(("what" : Str), .str ("keys" : Str))] [.own (some 0) (.ins ("Machine" : Str) (machF sg rows ends)), .dat (tD sg), .dat (rwsI false rows), .dat (ensI false false ends)] := by
  have h1 := check_rows2 false rows hg
  have h4 := keys_inB rows ends h
  have hr := h.nr
  have he := h.ne
  unfold rwsI at h1
  simp_all! only [↓turnF_ap, kF1_ap, ↓turnC_ap, ↓kC1_ap, ↓kC2_ap, ↓kC3_ap, ↓turnN_ap, ↓kN1_ap, ↓kN2_ap, ↓kN3_ap, ↓bodyN_nil, ↓bodyN_cons, ↓kBN_ap, ↓kBC_ap, ↓bodyD_ap, ↓kBD1_ap, ↓kBD2_ap, goes_nx, goes_ct, tc_if, tn_if, fc_Machine_signs, fp_Machine_signs, fg_Machine_signs_0, fg_Machine_signs_1, fg_Machine_signs_2, fg_Machine_signs_3, fc_Machine_rows, fp_Machine_rows, fg_Machine_rows_1, fg_Machine_rows_2, fg_Machine_rows_3, fc_Machine_ends, fp_Machine_ends, fg_Machine_ends_2, fg_Machine_ends_3, fc_Machine_all_keys, fp_Machine_all_keys, fg_Machine_all_keys_3, fm_Machine_after, fm_Machine_far_keys, fm_Machine_keys_of, fm_Machine_read, ↓strC_ap, ↓kStrC_ap, strO_str, strO_ex, ↓makeLO_ap, ↓kML_ap, ↓cmO_ap, ↓clsA_ap, ↓kCls_ap, ↓starS_ap, ↓kStarS_ap, ↓enIK_ap, ↓kEnIK_ap, ↓u_Machine_init_v1, ↓d_Machine_init_v1, rwsI, h1]
  rw [compL_a (rwI false) rowO rows (fun r hr => by
    have l1 := h.row r hr
    simp_all! only [↓turnF_ap, kF1_ap, ↓turnC_ap, ↓kC1_ap, ↓kC2_ap, ↓kC3_ap, ↓turnN_ap, ↓kN1_ap, ↓kN2_ap, ↓kN3_ap, ↓bodyN_nil, ↓bodyN_cons, ↓kBN_ap, ↓kBC_ap, ↓bodyD_ap, ↓kBD1_ap, ↓kBD2_ap, goes_nx, goes_ct, tc_if, tn_if, fc_Machine_signs, fp_Machine_signs, fg_Machine_signs_0, fg_Machine_signs_1, fg_Machine_signs_2, fg_Machine_signs_3, fc_Machine_rows, fp_Machine_rows, fg_Machine_rows_1, fg_Machine_rows_2, fg_Machine_rows_3, fc_Machine_ends, fp_Machine_ends, fg_Machine_ends_2, fg_Machine_ends_3, fc_Machine_all_keys, fp_Machine_all_keys, fg_Machine_all_keys_3, fm_Machine_after, fm_Machine_far_keys, fm_Machine_keys_of, fm_Machine_read, ↓strC_ap, ↓kStrC_ap, strO_str, strO_ex, ↓makeLO_ap, ↓kML_ap, ↓cmO_ap, ↓clsA_ap, ↓kCls_ap, ↓starS_ap, ↓kStarS_ap, ↓enIK_ap, ↓kEnIK_ap, ↓q_Machine_init_v1_2, rwI]
    rw [compL_a (wyI false) wayO r (fun w hw => by
      have a := ascending_sq false w.2 (by have := h.way r hr w hw; omega) (asc_small _ (h.way r hr w hw))
      simp_all! only [↓turnF_ap, kF1_ap, ↓turnC_ap, ↓kC1_ap, ↓kC2_ap, ↓kC3_ap, ↓turnN_ap, ↓kN1_ap, ↓kN2_ap, ↓kN3_ap, ↓bodyN_nil, ↓bodyN_cons, ↓kBN_ap, ↓kBC_ap, ↓bodyD_ap, ↓kBD1_ap, ↓kBD2_ap, goes_nx, goes_ct, tc_if, tn_if, fc_Machine_signs, fp_Machine_signs, fg_Machine_signs_0, fg_Machine_signs_1, fg_Machine_signs_2, fg_Machine_signs_3, fc_Machine_rows, fp_Machine_rows, fg_Machine_rows_1, fg_Machine_rows_2, fg_Machine_rows_3, fc_Machine_ends, fp_Machine_ends, fg_Machine_ends_2, fg_Machine_ends_3, fc_Machine_all_keys, fp_Machine_all_keys, fg_Machine_all_keys_3, fm_Machine_after, fm_Machine_far_keys, fm_Machine_keys_of, fm_Machine_read, ↓strC_ap, ↓kStrC_ap, strO_str, strO_ex, ↓makeLO_ap, ↓kML_ap, ↓cmO_ap, ↓clsA_ap, ↓kCls_ap, ↓starS_ap, ↓kStarS_ap, ↓enIK_ap, ↓kEnIK_ap, ↓q_Machine_init_v1_1, wyI, a, wayO]) (by rw [sl_eq]; omega)]
    simp_all! only [↓turnF_ap, kF1_ap, ↓turnC_ap, ↓kC1_ap, ↓kC2_ap, ↓kC3_ap, ↓turnN_ap, ↓kN1_ap, ↓kN2_ap, ↓kN3_ap, ↓bodyN_nil, ↓bodyN_cons, ↓kBN_ap, ↓kBC_ap, ↓bodyD_ap, ↓kBD1_ap, ↓kBD2_ap, goes_nx, goes_ct, tc_if, tn_if, fc_Machine_signs, fp_Machine_signs, fg_Machine_signs_0, fg_Machine_signs_1, fg_Machine_signs_2, fg_Machine_signs_3, fc_Machine_rows, fp_Machine_rows, fg_Machine_rows_1, fg_Machine_rows_2, fg_Machine_rows_3, fc_Machine_ends, fp_Machine_ends, fg_Machine_ends_2, fg_Machine_ends_3, fc_Machine_all_keys, fp_Machine_all_keys, fg_Machine_all_keys_3, fm_Machine_after, fm_Machine_far_keys, fm_Machine_keys_of, fm_Machine_read, ↓strC_ap, ↓kStrC_ap, strO_str, strO_ex, ↓makeLO_ap, ↓kML_ap, ↓cmO_ap, ↓clsA_ap, ↓kCls_ap, ↓starS_ap, ↓kStarS_ap, ↓enIK_ap, ↓kEnIK_ap, rowO]) (by rw [sl_eq]; omega)]
  simp_all! only [↓turnF_ap, kF1_ap, ↓turnC_ap, ↓kC1_ap, ↓kC2_ap, ↓kC3_ap, ↓turnN_ap, ↓kN1_ap, ↓kN2_ap, ↓kN3_ap, ↓bodyN_nil, ↓bodyN_cons, ↓kBN_ap, ↓kBC_ap, ↓bodyD_ap, ↓kBD1_ap, ↓kBD2_ap, goes_nx, goes_ct, tc_if, tn_if, fc_Machine_signs, fp_Machine_signs, fg_Machine_signs_0, fg_Machine_signs_1, fg_Machine_signs_2, fg_Machine_signs_3, fc_Machine_rows, fp_Machine_rows, fg_Machine_rows_1, fg_Machine_rows_2, fg_Machine_rows_3, fc_Machine_ends, fp_Machine_ends, fg_Machine_ends_2, fg_Machine_ends_3, fc_Machine_all_keys, fp_Machine_all_keys, fg_Machine_all_keys_3, fm_Machine_after, fm_Machine_far_keys, fm_Machine_keys_of, fm_Machine_read, ↓strC_ap, ↓kStrC_ap, strO_str, strO_ex, ↓makeLO_ap, ↓kML_ap, ↓cmO_ap, ↓clsA_ap, ↓kCls_ap, ↓starS_ap, ↓kStarS_ap, ↓enIK_ap, ↓kEnIK_ap, ensI, items_sq]
  rw [compL_a (enI' false) endO ends (fun e he => by
    have a := ascending_sq false e (by have := h.en e he; omega) (asc_small _ (h.en e he))
    simp_all! only [↓turnF_ap, kF1_ap, ↓turnC_ap, ↓kC1_ap, ↓kC2_ap, ↓kC3_ap, ↓turnN_ap, ↓kN1_ap, ↓kN2_ap, ↓kN3_ap, ↓bodyN_nil, ↓bodyN_cons, ↓kBN_ap, ↓kBC_ap, ↓bodyD_ap, ↓kBD1_ap, ↓kBD2_ap, goes_nx, goes_ct, tc_if, tn_if, fc_Machine_signs, fp_Machine_signs, fg_Machine_signs_0, fg_Machine_signs_1, fg_Machine_signs_2, fg_Machine_signs_3, fc_Machine_rows, fp_Machine_rows, fg_Machine_rows_1, fg_Machine_rows_2, fg_Machine_rows_3, fc_Machine_ends, fp_Machine_ends, fg_Machine_ends_2, fg_Machine_ends_3, fc_Machine_all_keys, fp_Machine_all_keys, fg_Machine_all_keys_3, fm_Machine_after, fm_Machine_far_keys, fm_Machine_keys_of, fm_Machine_read, ↓strC_ap, ↓kStrC_ap, strO_str, strO_ex, ↓makeLO_ap, ↓kML_ap, ↓cmO_ap, ↓clsA_ap, ↓kCls_ap, ↓starS_ap, ↓kStarS_ap, ↓enIK_ap, ↓kEnIK_ap, ↓q_Machine_init_v1_3, enI', a, endO]) (by rw [sl_eq]; omega)]
  unfold rowsO endsO at h4
  obtain ⟨n, en⟩ : ∃ n, n = (asc (allL rows ends)).length := ⟨_, rfl⟩
  by_cases c : n ≤ 12
  · rw [← en, if_pos c]
    rw [en] at c
    simp_all! only [↓turnF_ap, kF1_ap, ↓turnC_ap, ↓kC1_ap, ↓kC2_ap, ↓kC3_ap, ↓turnN_ap, ↓kN1_ap, ↓kN2_ap, ↓kN3_ap, ↓bodyN_nil, ↓bodyN_cons, ↓kBN_ap, ↓kBC_ap, ↓bodyD_ap, ↓kBD1_ap, ↓kBD2_ap, goes_nx, goes_ct, tc_if, tn_if, fc_Machine_signs, fp_Machine_signs, fg_Machine_signs_0, fg_Machine_signs_1, fg_Machine_signs_2, fg_Machine_signs_3, fc_Machine_rows, fp_Machine_rows, fg_Machine_rows_1, fg_Machine_rows_2, fg_Machine_rows_3, fc_Machine_ends, fp_Machine_ends, fg_Machine_ends_2, fg_Machine_ends_3, fc_Machine_all_keys, fp_Machine_all_keys, fg_Machine_all_keys_3, fm_Machine_after, fm_Machine_far_keys, fm_Machine_keys_of, fm_Machine_read, ↓strC_ap, ↓kStrC_ap, strO_str, strO_ex, ↓makeLO_ap, ↓kML_ap, ↓cmO_ap, ↓clsA_ap, ↓kCls_ap, ↓starS_ap, ↓kStarS_ap, ↓enIK_ap, ↓kEnIK_ap, h4, c, machF, rowsO, endsO]
  · rw [← en, if_neg c]
    have c2 : (12 < ((asc (allL rows ends)).length : Int)) = True := eq_true (by omega)
    simp_all! only [↓turnF_ap, kF1_ap, ↓turnC_ap, ↓kC1_ap, ↓kC2_ap, ↓kC3_ap, ↓turnN_ap, ↓kN1_ap, ↓kN2_ap, ↓kN3_ap, ↓bodyN_nil, ↓bodyN_cons, ↓kBN_ap, ↓kBC_ap, ↓bodyD_ap, ↓kBD1_ap, ↓kBD2_ap, goes_nx, goes_ct, tc_if, tn_if, fc_Machine_signs, fp_Machine_signs, fg_Machine_signs_0, fg_Machine_signs_1, fg_Machine_signs_2, fg_Machine_signs_3, fc_Machine_rows, fp_Machine_rows, fg_Machine_rows_1, fg_Machine_rows_2, fg_Machine_rows_3, fc_Machine_ends, fp_Machine_ends, fg_Machine_ends_2, fg_Machine_ends_3, fc_Machine_all_keys, fp_Machine_all_keys, fg_Machine_all_keys_3, fm_Machine_after, fm_Machine_far_keys, fm_Machine_keys_of, fm_Machine_read, ↓strC_ap, ↓kStrC_ap, strO_str, strO_ex, ↓makeLO_ap, ↓kML_ap, ↓cmO_ap, ↓clsA_ap, ↓kCls_ap, ↓starS_ap, ↓kStarS_ap, ↓enIK_ap, ↓kEnIK_ap, h4, c2, machF, rowsO, endsO]
    rfl
end Nv
-- S_tb
-- classes: Machine
namespace Nv
open PySem PySem.Spec PyProof.Rows L2
theorem asc_asc (l : List Tx) : asc (asc l) = asc l := asc_ext fun x => asc_mem
/-- keys of some words, ascending -/
structure KsOk (words ks : List Tx) : Prop where
  sub : ∀ k ∈ ks, k ∈ words
  n : ks.length ≤ 2
  as : asc ks = ks
theorem pick6 (p : Pn) (k : Nat) (h : PB p (k + 1)) : ∃ (v : Nat) (p' : Pn), v ≤ 2 ∧ f__law_pick [.own p.o, .dat (.lst [.int 0, .int 0, .int 0, .int 1, .int 1, .int 2])] = .ok (.dat (.int (v : Nat))) [.own (some 0) p'.o, .dat (.lst [.int 0, .int 0, .int 0, .int 1, .int 1, .int 2])] ∧ PB p' k := by
  have c1 := drawN_lt (p := p) (n := 6) (by omega)
  have hk := pickL_ok (fun i : Nat => D.int (i : Nat)) p [0, 0, 0, 1, 1, 2] (([0, 0, 0, 1, 1, 2] : List Nat)[(drawN p 6).1]'c1) (by decide) (h.mono (by omega)) (List.getElem?_eq_getElem c1)
  obtain ⟨b, eb⟩ : ∃ b, b = ([0, 0, 0, 1, 1, 2] : List Nat)[(drawN p 6).1]'c1 := ⟨_, rfl⟩
  have mb : b ∈ ([0, 0, 0, 1, 1, 2] : List Nat) := by rw [eb]; exact List.getElem_mem _
  simp only [List.mem_cons, List.not_mem_nil, or_false] at mb
  rw [← eb] at hk
  exact ⟨b, (drawN p 6).2, by omega, hk, drawN_pb h⟩
theorem keys_ok (words : List Tx) (hw : words ≠ []) (hl : words.length ≤ 100) (p : Pn) (k : Nat) (h : PB p (k + 3)) :
    ∃ ks p', f__law_keys [.own p.o, .dat (.lst (words.map tD))] = .ok (.own (.lst (ks.map tD))) [.own (some 0) p'.o, .dat (.lst (words.map tD))] ∧ KsOk words ks ∧ PB p' k := by
  obtain ⟨v, p1, v2, h1, b1⟩ := pick6 p (k + 2) (h.mono (by omega))
  obtain ⟨acc, Γ', c1, l, q, e1, e2, h2, h3, h4⟩ := compL_x (Γ0 := [.own (some 0) p1.o, .dat (.lst (words.map tD)), .dat (.int (v : Nat)), .un]) (g := tName 3) (t := yesT) (fe := q__law_keys_1) (fun i : Nat => .int (0 + (i : Nat)))
    (fun r acc Γ => ∃ (l : List Tx) (q : Pn), acc = l.map tD ∧ Γ = [.own (some 0) q.o, .dat (.lst (words.map tD)), .dat (.int (v : Nat)), .un] ∧ (∀ x ∈ l, x ∈ words) ∧ l.length + r.length ≤ 2 ∧ PB q (k + r.length))
    (fun x r acc Γ ⟨l, q, e1, e2, h2, h3, h4⟩ => by
      subst e1; subst e2
      rw [List.length_cons] at h3 h4
      have c1 := drawN_lt (p := q) (n := words.length) (List.length_pos_iff.mpr hw)
      have hk := pickL_ok tD q words (words[(drawN q words.length).1]'c1) (by omega) (h4.mono (by omega)) (List.getElem?_eq_getElem c1)
      refine ⟨some (tD (words[(drawN q words.length).1]'c1)), _, ?_, l ++ [words[(drawN q words.length).1]'c1], (drawN q words.length).2, by rw [List.map_append]; rfl, rfl, fun y hy => ?_, by rw [List.length_append, List.length_singleton]; omega, drawN_pb h4⟩
      · simp_all! only [↓turnF_ap, kF1_ap, ↓turnC_ap, ↓kC1_ap, ↓kC2_ap, ↓kC3_ap, ↓turnN_ap, ↓kN1_ap, ↓kN2_ap, ↓kN3_ap, ↓bodyN_nil, ↓bodyN_cons, ↓kBN_ap, ↓kBC_ap, ↓bodyD_ap, ↓kBD1_ap, ↓kBD2_ap, goes_nx, goes_ct, tc_if, tn_if, fc_Machine_signs, fp_Machine_signs, fg_Machine_signs_0, fg_Machine_signs_1, fg_Machine_signs_2, fg_Machine_signs_3, fc_Machine_rows, fp_Machine_rows, fg_Machine_rows_1, fg_Machine_rows_2, fg_Machine_rows_3, fc_Machine_ends, fp_Machine_ends, fg_Machine_ends_2, fg_Machine_ends_3, fc_Machine_all_keys, fp_Machine_all_keys, fg_Machine_all_keys_3, fm_Machine_after, fm_Machine_far_keys, fm_Machine_keys_of, fm_Machine_read, ↓q__law_keys_1, hk]
      · rcases List.mem_append.mp hy with hy | hy
        · exact h2 y hy
        · rw [List.mem_singleton.mp hy]; exact List.getElem_mem _) (List.range v) [] _ ⟨[], p1, rfl, rfl, fun _ h => (nomatch h), by rw [List.length_range]; simpa using v2, b1.mono (by rw [List.length_range]; omega)⟩ (by rw [sl_eq, List.length_range, List.length_nil]; omega)
  subst e1; subst e2
  rw [List.length_nil, Nat.add_zero] at h3
  have la := asc_len l
  refine ⟨asc l, q, ?_, ⟨fun x hx => h2 x (asc_mem.mp hx), by omega, asc_asc l⟩, by simpa using h4⟩
  have s1 := gSset_S (l := l) (by omega) (by omega)
  have r1 : rngOk ((v : Nat) : Int) = true := rng_t (by omega) (by omega)
  have r2 : rangeD 0 v = (List.range v).map (fun i : Nat => D.int (0 + (i : Nat))) := rfl
  rw [← r2] at c1
  simp_all! only [↓turnF_ap, kF1_ap, ↓turnC_ap, ↓kC1_ap, ↓kC2_ap, ↓kC3_ap, ↓turnN_ap, ↓kN1_ap, ↓kN2_ap, ↓kN3_ap, ↓bodyN_nil, ↓bodyN_cons, ↓kBN_ap, ↓kBC_ap, ↓bodyD_ap, ↓kBD1_ap, ↓kBD2_ap, goes_nx, goes_ct, tc_if, tn_if, fc_Machine_signs, fp_Machine_signs, fg_Machine_signs_0, fg_Machine_signs_1, fg_Machine_signs_2, fg_Machine_signs_3, fc_Machine_rows, fp_Machine_rows, fg_Machine_rows_1, fg_Machine_rows_2, fg_Machine_rows_3, fc_Machine_ends, fp_Machine_ends, fg_Machine_ends_2, fg_Machine_ends_3, fc_Machine_all_keys, fp_Machine_all_keys, fg_Machine_all_keys_3, fm_Machine_after, fm_Machine_far_keys, fm_Machine_keys_of, fm_Machine_read, ↓u__law_keys, ↓d__law_keys, h1, r1, c1, s1]
/-- drawn tables -/
structure TbOk (sg : Tx) (words : List Tx) (most : Nat) (rows : List (List Way)) (ends : List (List Tx)) : Prop where
  n0 : 0 < rows.length
  n : rows.length ≤ most
  row : ∀ r ∈ rows, r.length = sg.length
  go : ∀ r ∈ rows, ∀ w ∈ r, w.1 < rows.length
  key : ∀ r ∈ rows, ∀ w ∈ r, KsOk words w.2
  en : ends.length = rows.length
  eks : ∀ e ∈ ends, KsOk words e
theorem range_map {n : Nat} : rangeD 0 n = (List.range n).map (fun i : Nat => D.int (0 + (i : Nat))) := rfl
theorem row_comp (sg : Tx) (words : List Tx) (hw : words ≠ []) (hl : words.length ≤ 100) (hs : sg.length ≤ 10) (mo : D) (many : Nat) (hm : 0 < many) (hm2 : many ≤ 100) (st : D) (p : Pn) (k : Nat) (h : PB p (k + 4 * sg.length)) (Γ0 : Ev)
    (e0 : Γ0 = [.own (some 0) p.o, .dat (tD sg), .dat mo, .dat (.lst (words.map tD)), .dat (.int (many : Nat)), .un, .dat st, .un]) :
    ∃ (r : List Way) (p' : Pn), compL Γ0 (tName 7) yesT q__law_tables_1 (sg.map cD) [] Γ0 = some (r.map (wyI false), [.own (some 0) p'.o, .dat (tD sg), .dat mo, .dat (.lst (words.map tD)), .dat (.int (many : Nat)), .un, .dat st, .un]) ∧
      r.length = sg.length ∧ (∀ w ∈ r, w.1 < many ∧ KsOk words w.2) ∧ PB p' k := by
  obtain ⟨acc, Γ', c1, l, q, e1, e2, h2, h3, h4⟩ := compL_x (Γ0 := Γ0) (g := tName 7) (t := yesT) (fe := q__law_tables_1) cD
    (fun r acc Γ => ∃ (l : List Way) (q : Pn), acc = l.map (wyI false) ∧ Γ = [.own (some 0) q.o, .dat (tD sg), .dat mo, .dat (.lst (words.map tD)), .dat (.int (many : Nat)), .un, .dat st, .un] ∧ (∀ w ∈ l, w.1 < many ∧ KsOk words w.2) ∧ l.length + r.length = sg.length ∧ PB q (k + 4 * r.length))
    (fun x r acc Γ ⟨l, q, e1, e2, h2, h3, h4⟩ => by
      subst e1; subst e2; subst e0
      rw [List.length_cons] at h3 h4
      have hd := drawN_ok q many hm (by omega) (h4.mono (by omega)) many rfl
      have hlt := drawN_lt (p := q) (n := many) hm
      have b1 : PB (drawN q many).2 (k + 4 * r.length + 3) := drawN_pb (h4.mono (by omega))
      obtain ⟨g, q1, e3⟩ : ∃ c p', drawN q many = (c, p') := ⟨_, _, rfl⟩
      rw [e3] at hd hlt b1
      dsimp only at hd hlt b1
      obtain ⟨ks, q2, hk, ok, b2⟩ := keys_ok words hw hl q1 (k + 4 * r.length) b1
      refine ⟨some (wyI false (g, ks)), _, ?_, l ++ [(g, ks)], q2, by rw [List.map_append]; rfl, rfl, fun w hw => ?_, by rw [List.length_append, List.length_singleton]; omega, b2⟩
      · simp_all! only [↓turnF_ap, kF1_ap, ↓turnC_ap, ↓kC1_ap, ↓kC2_ap, ↓kC3_ap, ↓turnN_ap, ↓kN1_ap, ↓kN2_ap, ↓kN3_ap, ↓bodyN_nil, ↓bodyN_cons, ↓kBN_ap, ↓kBC_ap, ↓bodyD_ap, ↓kBD1_ap, ↓kBD2_ap, goes_nx, goes_ct, tc_if, tn_if, fc_Machine_signs, fp_Machine_signs, fg_Machine_signs_0, fg_Machine_signs_1, fg_Machine_signs_2, fg_Machine_signs_3, fc_Machine_rows, fp_Machine_rows, fg_Machine_rows_1, fg_Machine_rows_2, fg_Machine_rows_3, fc_Machine_ends, fp_Machine_ends, fg_Machine_ends_2, fg_Machine_ends_3, fc_Machine_all_keys, fp_Machine_all_keys, fg_Machine_all_keys_3, fm_Machine_after, fm_Machine_far_keys, fm_Machine_keys_of, fm_Machine_read, ↓q__law_tables_1, hd, hk, wyI, sq]
      · rcases List.mem_append.mp hw with hw | hw
        · exact h2 w hw
        · rw [List.mem_singleton.mp hw]; exact ⟨hlt, ok⟩) sg [] Γ0 ⟨[], p, rfl, e0, fun _ h => (nomatch h), by simp, h⟩ (by rw [sl_eq, List.length_nil]; omega)
  subst e1; subst e2
  exact ⟨l, q, c1, by simpa using h3, h2, by simpa using h4⟩
theorem tables_ok (sg : Tx) (words : List Tx) (hw : words ≠ []) (hl : words.length ≤ 100) (hs : sg.length ≤ 10) (most : Nat) (hm : 0 < most) (hm2 : most ≤ 20) (p : Pn) (k : Nat) (h : PB p (k + 1000)) :
    ∃ rows ends p', f__law_tables [.own p.o, .dat (tD sg), .dat (.int (most : Nat)), .dat (.lst (words.map tD))] = .ok (.dat (.tup [rwsI false rows, ensI false false ends])) [.own (some 0) p'.o, .dat (tD sg), .dat (.int (most : Nat)), .dat (.lst (words.map tD))] ∧ TbOk sg words most rows ends ∧ PB p' k := by
  have hd := drawN_ok p most hm (by omega) (h.mono (by omega)) most rfl
  have hlt := drawN_lt (p := p) (n := most) hm
  have b1 : PB (drawN p most).2 (k + 999) := drawN_pb (h.mono (by omega))
  obtain ⟨g, p1, e3⟩ : ∃ c p', drawN p most = (c, p') := ⟨_, _, rfl⟩
  rw [e3] at hd hlt b1
  dsimp only at hd hlt b1
  have hc : (1 : Int) + (g : Nat) = ((1 + g : Nat) : Int) := by omega
  obtain ⟨many, em⟩ : ∃ m, m = 1 + g := ⟨_, rfl⟩
  rw [← em] at hc
  have r1 : rngOk ((many : Nat) : Int) = true := rng_t (by omega) (by omega)
  obtain ⟨acc, Γ', c1, rows, p2, e1, e2, h2, h3, h4⟩ := compL_x (Γ0 := [.own (some 0) p1.o, .dat (tD sg), .dat (.int (most : Nat)), .dat (.lst (words.map tD)), .dat (.int (many : Nat)), .un, .un, .un]) (g := tName 6) (t := yesT) (fe := q__law_tables_2) (fun i : Nat => .int (0 + (i : Nat)))
    (fun r acc Γ => ∃ (l : List (List Way)) (q : Pn), acc = l.map (rwI false) ∧ Γ = [.own (some 0) q.o, .dat (tD sg), .dat (.int (most : Nat)), .dat (.lst (words.map tD)), .dat (.int (many : Nat)), .un, .un, .un] ∧ (∀ r ∈ l, r.length = sg.length ∧ ∀ w ∈ r, w.1 < many ∧ KsOk words w.2) ∧ l.length + r.length = many ∧ PB q (k + 100 + 40 * r.length))
    (fun x r acc Γ ⟨l, q, e1, e2, h2, h3, h4⟩ => by
      subst e1; subst e2
      rw [List.length_cons] at h3 h4
      obtain ⟨rw_, q2, c2, l2, k2, b2⟩ := row_comp sg words hw hl hs (.int (most : Nat)) many (by omega) (by omega) (.int (x : Nat)) q (k + 100 + 40 * r.length) (h4.mono (by omega)) _ rfl
      refine ⟨some (rwI false rw_), [.own (some 0) q2.o, .dat (tD sg), .dat (.int (most : Nat)), .dat (.lst (words.map tD)), .dat (.int (many : Nat)), .un, .un, .un], ?_, l ++ [rw_], q2, by rw [List.map_append]; rfl, rfl, fun y hy => ?_, by rw [List.length_append, List.length_singleton]; omega, b2⟩
      · simp_all! only [↓turnF_ap, kF1_ap, ↓turnC_ap, ↓kC1_ap, ↓kC2_ap, ↓kC3_ap, ↓turnN_ap, ↓kN1_ap, ↓kN2_ap, ↓kN3_ap, ↓bodyN_nil, ↓bodyN_cons, ↓kBN_ap, ↓kBC_ap, ↓bodyD_ap, ↓kBD1_ap, ↓kBD2_ap, goes_nx, goes_ct, tc_if, tn_if, fc_Machine_signs, fp_Machine_signs, fg_Machine_signs_0, fg_Machine_signs_1, fg_Machine_signs_2, fg_Machine_signs_3, fc_Machine_rows, fp_Machine_rows, fg_Machine_rows_1, fg_Machine_rows_2, fg_Machine_rows_3, fc_Machine_ends, fp_Machine_ends, fg_Machine_ends_2, fg_Machine_ends_3, fc_Machine_all_keys, fp_Machine_all_keys, fg_Machine_all_keys_3, fm_Machine_after, fm_Machine_far_keys, fm_Machine_keys_of, fm_Machine_read, ↓q__law_tables_2, c2, rwI]
      · rcases List.mem_append.mp hy with hy | hy
        · exact h2 y hy
        · rw [List.mem_singleton.mp hy]; exact ⟨l2, k2⟩) (List.range many) [] _ ⟨[], p1, rfl, rfl, fun _ h => (nomatch h), by simp, b1.mono (by rw [List.length_range]; omega)⟩ (by rw [sl_eq, List.length_range, List.length_nil]; omega)
  subst e1; subst e2
  rw [List.length_nil, Nat.add_zero] at h3
  obtain ⟨acc, Γ', c2, ends, p3, e1, e2, h5, h6, h7⟩ := compL_x (Γ0 := [.own (some 0) p2.o, .dat (tD sg), .dat (.int (most : Nat)), .dat (.lst (words.map tD)), .dat (.int (many : Nat)), .dat (rwsI false rows), .un, .un]) (g := tName 6) (t := yesT) (fe := q__law_tables_3) (fun i : Nat => .int (0 + (i : Nat)))
    (fun r acc Γ => ∃ (l : List (List Tx)) (q : Pn), acc = l.map (enI' false) ∧ Γ = [.own (some 0) q.o, .dat (tD sg), .dat (.int (most : Nat)), .dat (.lst (words.map tD)), .dat (.int (many : Nat)), .dat (rwsI false rows), .un, .un] ∧ (∀ e ∈ l, KsOk words e) ∧ l.length + r.length = many ∧ PB q (k + 3 * r.length))
    (fun x r acc Γ ⟨l, q, e1, e2, h2, h3, h4⟩ => by
      subst e1; subst e2
      rw [List.length_cons] at h3 h4
      obtain ⟨ks, q2, hk, ok, b2⟩ := keys_ok words hw hl q (k + 3 * r.length) (h4.mono (by omega))
      refine ⟨some (enI' false ks), _, ?_, l ++ [ks], q2, by rw [List.map_append]; rfl, rfl, fun y hy => ?_, by rw [List.length_append, List.length_singleton]; omega, b2⟩
      · simp_all! only [↓turnF_ap, kF1_ap, ↓turnC_ap, ↓kC1_ap, ↓kC2_ap, ↓kC3_ap, ↓turnN_ap, ↓kN1_ap, ↓kN2_ap, ↓kN3_ap, ↓bodyN_nil, ↓bodyN_cons, ↓kBN_ap, ↓kBC_ap, ↓bodyD_ap, ↓kBD1_ap, ↓kBD2_ap, goes_nx, goes_ct, tc_if, tn_if, fc_Machine_signs, fp_Machine_signs, fg_Machine_signs_0, fg_Machine_signs_1, fg_Machine_signs_2, fg_Machine_signs_3, fc_Machine_rows, fp_Machine_rows, fg_Machine_rows_1, fg_Machine_rows_2, fg_Machine_rows_3, fc_Machine_ends, fp_Machine_ends, fg_Machine_ends_2, fg_Machine_ends_3, fc_Machine_all_keys, fp_Machine_all_keys, fg_Machine_all_keys_3, fm_Machine_after, fm_Machine_far_keys, fm_Machine_keys_of, fm_Machine_read, ↓q__law_tables_3, hk, enI', sq]
      · rcases List.mem_append.mp hy with hy | hy
        · exact h2 y hy
        · rw [List.mem_singleton.mp hy]; exact ok) (List.range many) [] _ ⟨[], p2, rfl, rfl, fun _ h => (nomatch h), by simp, h4.mono (by rw [List.length_range, List.length_nil]; omega)⟩ (by rw [sl_eq, List.length_range, List.length_nil]; omega)
  subst e1; subst e2
  rw [List.length_nil, Nat.add_zero] at h6
  refine ⟨rows, ends, p3, ?_, ⟨by omega, by omega, fun r hr => (h2 r hr).1, fun r hr w hw => by rw [h3]; exact ((h2 r hr).2 w hw).1, fun r hr w hw => ((h2 r hr).2 w hw).2, by omega, h5⟩, by simpa using h7⟩
  rw [← range_map] at c1 c2
  unfold rwsI at c2
  simp_all! only [↓turnF_ap, kF1_ap, ↓turnC_ap, ↓kC1_ap, ↓kC2_ap, ↓kC3_ap, ↓turnN_ap, ↓kN1_ap, ↓kN2_ap, ↓kN3_ap, ↓bodyN_nil, ↓bodyN_cons, ↓kBN_ap, ↓kBC_ap, ↓bodyD_ap, ↓kBD1_ap, ↓kBD2_ap, goes_nx, goes_ct, tc_if, tn_if, fc_Machine_signs, fp_Machine_signs, fg_Machine_signs_0, fg_Machine_signs_1, fg_Machine_signs_2, fg_Machine_signs_3, fc_Machine_rows, fp_Machine_rows, fg_Machine_rows_1, fg_Machine_rows_2, fg_Machine_rows_3, fc_Machine_ends, fp_Machine_ends, fg_Machine_ends_2, fg_Machine_ends_3, fc_Machine_all_keys, fp_Machine_all_keys, fg_Machine_all_keys_3, fm_Machine_after, fm_Machine_far_keys, fm_Machine_keys_of, fm_Machine_read, ↓u__law_tables, ↓d__law_tables, hd, hc, r1, c1, c2, rwsI, ensI, sq]
end Nv
-- S_rd
-- classes: Machine
namespace Nv
open PySem PySem.Spec PyProof.Rows L2
theorem nd_le {words l : List Tx} (nd : l.Nodup) (h : ∀ x ∈ l, x ∈ words) : l.length ≤ words.length := List.Nodup.length_le_of_subset nd h
theorem ded_le_w {words l : List Tx} (h : ∀ x ∈ l, x ∈ words) : (ded [] l).length ≤ words.length := nd_le (ded_nd l [] List.nodup_nil) fun x hx => h x (by rw [ded_mem] at hx; simpa using hx)
section
variable {sg : Tx} {rows : List (List Way)} {ends : List (List Tx)} {words : List Tx}
end
end Nv
-- S_fold
-- classes: Machine
namespace Nv
open PySem PySem.Spec PyProof.Rows L2
theorem flatN_le {α β : Type} (f : α → List β) (m : Nat) : ∀ l : List α, (∀ x ∈ l, (f x).length ≤ m) → (l.flatMap f).length ≤ l.length * m
  | [], _ => by simp
  | x :: l, h => by
    rw [List.flatMap_cons, List.length_append, List.length_cons, Nat.add_mul, Nat.one_mul]
    have h1 := h x List.mem_cons_self
    have h2 := flatN_le f m l fun y hy => h y (List.mem_cons_of_mem _ hy)
    omega
section
variable {sg : Tx} {rows : List (List Way)} {ends : List (List Tx)} {words : List Tx}
end
section
variable {inner sg : Tx} {rows : List (List Way)} {ends : List (List Tx)} {words : List Tx}
end
end Nv
-- S_3a
-- classes: Machine
-- n84
namespace Nv
open PySem PySem.Spec PyProof.Rows L2
section
variable {g : TgF} {f : Ev → Out} {d : D} {r : List D} {Γ Γ1 : Ev} {o : Out}
theorem forL_go (h : Goes (turnF g f d Γ) Γ1) : forL g f (d :: r) Γ = forL g f r Γ1 := by
  rw [forL]
  rcases h with h | h
  · obtain ⟨Γ2, h1, h2⟩ := turnF_some h (fun z => nomatch z)
    rw [h1]
    dsimp only
    rw [h2]
  · obtain ⟨Γ2, h1, h2⟩ := turnF_some h (fun z => nomatch z)
    rw [h1]
    dsimp only
    rw [h2]
theorem forL_rt {av : AV} (h : turnF g f d Γ = .rt av Γ1) : forL g f (d :: r) Γ = .rt av Γ1 := by
  rw [forL]
  obtain ⟨Γ2, h1, h2⟩ := turnF_some h (fun z => nomatch z)
  rw [h1]
  dsimp only
  rw [h2]
theorem forL_ex {n : Str} {l : List (Str × D)} (h : turnF g f d Γ = .ex n l Γ1) : forL g f (d :: r) Γ = .ex n l Γ1 := by
  rw [forL]
  obtain ⟨Γ2, h1, h2⟩ := turnF_some h (fun z => nomatch z)
  rw [h1]
  dsimp only
  rw [h2]
end
abbrev WayZ := Int × List Tx
abbrev RwZ := List (List WayZ)
def wyZ (w : WayZ) : D := .tup [.int w.1, .lst (w.2.map tD)]
def rwZ (r : List WayZ) : D := .lst (r.map wyZ)
def rwsZ (rows : RwZ) : D := .lst (rows.map rwZ)
def fbR (n : Nat) : Nat → List WayZ → Option Nat
  | _, [] => none
  | j, w :: r => if 0 ≤ w.1 ∧ w.1 < (n : Int) then fbR n (j + 1) r else some j
def fbM (n : Nat) : Nat → RwZ → Option (Nat × Nat)
  | _, [] => none
  | s, r :: rs => match fbR n 0 r with
    | some j => some (s, j)
    | none => fbM n (s + 1) rs
def bmD (s j : Nat) : List (Str × D) := [(("place" : Str), .int (j : Nat)), (("state" : Str), .int (s : Nat))]
def crI (rows0 : RwZ) (s : Nat) (rd : D) : Ev := [.dat (rwsZ rows0), .dat (.int (s : Nat)), .dat rd, .un, .un]
theorem cr_go (rows0 : RwZ) (s j : Nat) (rd : D) (w : WayZ) (c : 0 ≤ w.1 ∧ w.1 < (rows0.length : Int)) :
    turnF (tTup (tsCons (tName 3) (tsCons (tName 4) tsNil))) b_check_rows_1 (.tup [.int (j : Nat), wyZ w]) (crI rows0 s rd) = .nx (crI rows0 s rd) := by
  obtain ⟨c1, c2⟩ := c
  unfold crI
  simp_all! only [↓turnF_ap, kF1_ap, ↓turnC_ap, ↓kC1_ap, ↓kC2_ap, ↓kC3_ap, ↓turnN_ap, ↓kN1_ap, ↓kN2_ap, ↓kN3_ap, ↓bodyN_nil, ↓bodyN_cons, ↓kBN_ap, ↓kBC_ap, ↓bodyD_ap, ↓kBD1_ap, ↓kBD2_ap, goes_nx, goes_ct, tc_if, tn_if, fc_Machine_signs, fp_Machine_signs, fg_Machine_signs_0, fg_Machine_signs_1, fg_Machine_signs_2, fg_Machine_signs_3, fc_Machine_rows, fp_Machine_rows, fg_Machine_rows_1, fg_Machine_rows_2, fg_Machine_rows_3, fc_Machine_ends, fp_Machine_ends, fg_Machine_ends_2, fg_Machine_ends_3, fc_Machine_all_keys, fp_Machine_all_keys, fg_Machine_all_keys_3, fm_Machine_after, fm_Machine_far_keys, fm_Machine_keys_of, fm_Machine_read, ↓strC_ap, ↓kStrC_ap, strO_str, strO_ex, ↓makeLO_ap, ↓kML_ap, ↓cmO_ap, ↓clsA_ap, ↓kCls_ap, ↓starS_ap, ↓kStarS_ap, ↓enIK_ap, ↓kEnIK_ap, ↓b_check_rows_1, rwsZ, wyZ]
theorem cr_ex (rows0 : RwZ) (s j : Nat) (rd : D) (w : WayZ) (c : ¬ (0 ≤ w.1 ∧ w.1 < (rows0.length : Int))) :
    turnF (tTup (tsCons (tName 3) (tsCons (tName 4) tsNil))) b_check_rows_1 (.tup [.int (j : Nat), wyZ w]) (crI rows0 s rd) = .ex ("BadMachine" : Str) (bmD s j) [.dat (rwsZ rows0), .dat (.int (s : Nat)), .dat rd, .dat (.int (j : Nat)), .dat (wyZ w)] := by
  by_cases c1 : 0 ≤ w.1
  · have c2 : ¬ w.1 < (rows0.length : Int) := fun z => c ⟨c1, z⟩
    unfold crI
    simp_all! only [↓turnF_ap, kF1_ap, ↓turnC_ap, ↓kC1_ap, ↓kC2_ap, ↓kC3_ap, ↓turnN_ap, ↓kN1_ap, ↓kN2_ap, ↓kN3_ap, ↓bodyN_nil, ↓bodyN_cons, ↓kBN_ap, ↓kBC_ap, ↓bodyD_ap, ↓kBD1_ap, ↓kBD2_ap, goes_nx, goes_ct, tc_if, tn_if, fc_Machine_signs, fp_Machine_signs, fg_Machine_signs_0, fg_Machine_signs_1, fg_Machine_signs_2, fg_Machine_signs_3, fc_Machine_rows, fp_Machine_rows, fg_Machine_rows_1, fg_Machine_rows_2, fg_Machine_rows_3, fc_Machine_ends, fp_Machine_ends, fg_Machine_ends_2, fg_Machine_ends_3, fc_Machine_all_keys, fp_Machine_all_keys, fg_Machine_all_keys_3, fm_Machine_after, fm_Machine_far_keys, fm_Machine_keys_of, fm_Machine_read, ↓strC_ap, ↓kStrC_ap, strO_str, strO_ex, ↓makeLO_ap, ↓kML_ap, ↓cmO_ap, ↓clsA_ap, ↓kCls_ap, ↓starS_ap, ↓kStarS_ap, ↓enIK_ap, ↓kEnIK_ap, ↓b_check_rows_1, rwsZ, wyZ]
    rfl
  · unfold crI
    simp_all! only [↓turnF_ap, kF1_ap, ↓turnC_ap, ↓kC1_ap, ↓kC2_ap, ↓kC3_ap, ↓turnN_ap, ↓kN1_ap, ↓kN2_ap, ↓kN3_ap, ↓bodyN_nil, ↓bodyN_cons, ↓kBN_ap, ↓kBC_ap, ↓bodyD_ap, ↓kBD1_ap, ↓kBD2_ap, goes_nx, goes_ct, tc_if, tn_if, fc_Machine_signs, fp_Machine_signs, fg_Machine_signs_0, fg_Machine_signs_1, fg_Machine_signs_2, fg_Machine_signs_3, fc_Machine_rows, fp_Machine_rows, fg_Machine_rows_1, fg_Machine_rows_2, fg_Machine_rows_3, fc_Machine_ends, fp_Machine_ends, fg_Machine_ends_2, fg_Machine_ends_3, fc_Machine_all_keys, fp_Machine_all_keys, fg_Machine_all_keys_3, fm_Machine_after, fm_Machine_far_keys, fm_Machine_keys_of, fm_Machine_read, ↓strC_ap, ↓kStrC_ap, strO_str, strO_ex, ↓makeLO_ap, ↓kML_ap, ↓cmO_ap, ↓clsA_ap, ↓kCls_ap, ↓starS_ap, ↓kStarS_ap, ↓enIK_ap, ↓kEnIK_ap, ↓b_check_rows_1, rwsZ, wyZ]
    rfl
theorem cr_in0 (rows0 : RwZ) (s : Nat) (rd : D) : ∀ (r : List WayZ) (j : Nat), fbR rows0.length j r = none →
    forL (tTup (tsCons (tName 3) (tsCons (tName 4) tsNil))) b_check_rows_1 (enumD j (r.map wyZ)) (crI rows0 s rd) = .nx (crI rows0 s rd)
  | [], j, _ => rfl
  | w :: r, j, h => by
    unfold fbR at h
    split at h
    · rename_i c
      rw [List.map_cons, enumD, forL_go (.inl (cr_go rows0 s j rd w c))]
      exact cr_in0 rows0 s rd r (j + 1) h
    · cases h
theorem cr_in1 (rows0 : RwZ) (s : Nat) (rd : D) : ∀ (r : List WayZ) (j p : Nat), fbR rows0.length j r = some p →
    ∃ w, forL (tTup (tsCons (tName 3) (tsCons (tName 4) tsNil))) b_check_rows_1 (enumD j (r.map wyZ)) (crI rows0 s rd) = .ex ("BadMachine" : Str) (bmD s p) [.dat (rwsZ rows0), .dat (.int (s : Nat)), .dat rd, .dat (.int (p : Nat)), .dat w]
  | [], j, p, h => by cases h
  | w :: r, j, p, h => by
    unfold fbR at h
    split at h
    · rename_i c
      rw [List.map_cons, enumD, forL_go (.inl (cr_go rows0 s j rd w c))]
      exact cr_in1 rows0 s rd r (j + 1) p h
    · rename_i c
      cases h
      rw [List.map_cons, enumD]
      exact ⟨_, forL_ex (cr_ex rows0 s j rd w c)⟩
def crE (rows0 : RwZ) : Ev := [.dat (rwsZ rows0), .un, .un, .un, .un]
theorem cr_out1 (rows0 : RwZ) : ∀ (rs : RwZ) (s : Nat) (p : Nat × Nat), fbM rows0.length s rs = some p → ∃ w1 w2 w3 w4, forL (tTup (tsCons (tName 1) (tsCons (tName 2) tsNil))) b_check_rows_2 (enumD s (rs.map rwZ)) (crE rows0) = .ex ("BadMachine" : Str) (bmD p.1 p.2) [.dat (rwsZ rows0), w1, w2, w3, w4]
  | [], s, _, h => by cases h
  | r :: rs, s, p, h => by
    unfold fbM at h
    split at h
    · rename_i j hr
      cases h
      obtain ⟨w, i⟩ := cr_in1 rows0 s (rwZ r) r 0 j hr
      unfold crI at i
      rw [List.map_cons, enumD]
      refine ⟨_, _, _, _, forL_ex (Γ1 := [.dat (rwsZ rows0), .dat (.int (s : Nat)), .dat (rwZ r), .dat (.int (j : Nat)), .dat w]) ?_⟩
      unfold crE
      unfold rwZ at i
      simp_all! only [↓turnF_ap, kF1_ap, ↓turnC_ap, ↓kC1_ap, ↓kC2_ap, ↓kC3_ap, ↓turnN_ap, ↓kN1_ap, ↓kN2_ap, ↓kN3_ap, ↓bodyN_nil, ↓bodyN_cons, ↓kBN_ap, ↓kBC_ap, ↓bodyD_ap, ↓kBD1_ap, ↓kBD2_ap, goes_nx, goes_ct, tc_if, tn_if, fc_Machine_signs, fp_Machine_signs, fg_Machine_signs_0, fg_Machine_signs_1, fg_Machine_signs_2, fg_Machine_signs_3, fc_Machine_rows, fp_Machine_rows, fg_Machine_rows_1, fg_Machine_rows_2, fg_Machine_rows_3, fc_Machine_ends, fp_Machine_ends, fg_Machine_ends_2, fg_Machine_ends_3, fc_Machine_all_keys, fp_Machine_all_keys, fg_Machine_all_keys_3, fm_Machine_after, fm_Machine_far_keys, fm_Machine_keys_of, fm_Machine_read, ↓strC_ap, ↓kStrC_ap, strO_str, strO_ex, ↓makeLO_ap, ↓kML_ap, ↓cmO_ap, ↓clsA_ap, ↓kCls_ap, ↓starS_ap, ↓kStarS_ap, ↓enIK_ap, ↓kEnIK_ap, ↓b_check_rows_2, rwZ, i]
      rfl
    · rename_i hr
      have i := cr_in0 rows0 s (rwZ r) r 0 hr
      unfold crI at i
      rw [List.map_cons, enumD, forL_go (Γ1 := crE rows0) (.inl (by
        unfold crE
        unfold rwZ at i
        simp_all! only [↓turnF_ap, kF1_ap, ↓turnC_ap, ↓kC1_ap, ↓kC2_ap, ↓kC3_ap, ↓turnN_ap, ↓kN1_ap, ↓kN2_ap, ↓kN3_ap, ↓bodyN_nil, ↓bodyN_cons, ↓kBN_ap, ↓kBC_ap, ↓bodyD_ap, ↓kBD1_ap, ↓kBD2_ap, goes_nx, goes_ct, tc_if, tn_if, fc_Machine_signs, fp_Machine_signs, fg_Machine_signs_0, fg_Machine_signs_1, fg_Machine_signs_2, fg_Machine_signs_3, fc_Machine_rows, fp_Machine_rows, fg_Machine_rows_1, fg_Machine_rows_2, fg_Machine_rows_3, fc_Machine_ends, fp_Machine_ends, fg_Machine_ends_2, fg_Machine_ends_3, fc_Machine_all_keys, fp_Machine_all_keys, fg_Machine_all_keys_3, fm_Machine_after, fm_Machine_far_keys, fm_Machine_keys_of, fm_Machine_read, ↓strC_ap, ↓kStrC_ap, strO_str, strO_ex, ↓makeLO_ap, ↓kML_ap, ↓cmO_ap, ↓clsA_ap, ↓kCls_ap, ↓starS_ap, ↓kStarS_ap, ↓enIK_ap, ↓kEnIK_ap, ↓b_check_rows_2, rwZ, i]))]
      exact cr_out1 rows0 rs (s + 1) p h
theorem check_bad (rows : RwZ) (p : Nat × Nat) (h : fbM rows.length 0 rows = some p) : f_check_rows [.dat (rwsZ rows)] = .ex ("BadMachine" : Str) (bmD p.1 p.2) [.dat (rwsZ rows)] := by
  obtain ⟨w1, w2, w3, w4, i⟩ := cr_out1 rows rows 0 p h
  unfold crE rwsZ at i
  simp_all! only [↓turnF_ap, kF1_ap, ↓turnC_ap, ↓kC1_ap, ↓kC2_ap, ↓kC3_ap, ↓turnN_ap, ↓kN1_ap, ↓kN2_ap, ↓kN3_ap, ↓bodyN_nil, ↓bodyN_cons, ↓kBN_ap, ↓kBC_ap, ↓bodyD_ap, ↓kBD1_ap, ↓kBD2_ap, goes_nx, goes_ct, tc_if, tn_if, fc_Machine_signs, fp_Machine_signs, fg_Machine_signs_0, fg_Machine_signs_1, fg_Machine_signs_2, fg_Machine_signs_3, fc_Machine_rows, fp_Machine_rows, fg_Machine_rows_1, fg_Machine_rows_2, fg_Machine_rows_3, fc_Machine_ends, fp_Machine_ends, fg_Machine_ends_2, fg_Machine_ends_3, fc_Machine_all_keys, fp_Machine_all_keys, fg_Machine_all_keys_3, fm_Machine_after, fm_Machine_far_keys, fm_Machine_keys_of, fm_Machine_read, ↓strC_ap, ↓kStrC_ap, strO_str, strO_ex, ↓makeLO_ap, ↓kML_ap, ↓cmO_ap, ↓clsA_ap, ↓kCls_ap, ↓starS_ap, ↓kStarS_ap, ↓enIK_ap, ↓kEnIK_ap, ↓u_check_rows, ↓d_check_rows, rwsZ, i]
  rfl
theorem init_bad (sg : Tx) (rows : RwZ) (ed : D) (p : Nat × Nat) (h : fbM rows.length 0 rows = some p) :
    f_Machine_init_v1 [.own (.ins ("Machine" : Str) []), .dat (tD sg), .dat (rwsZ rows), .dat ed] = .ex ("BadMachine" : Str) (bmD p.1 p.2) [.own (some 0) (.ins ("Machine" : Str) []), .dat (tD sg), .dat (rwsZ rows), .dat ed] := by
  have h1 := check_bad rows p h
  simp_all! only [↓turnF_ap, kF1_ap, ↓turnC_ap, ↓kC1_ap, ↓kC2_ap, ↓kC3_ap, ↓turnN_ap, ↓kN1_ap, ↓kN2_ap, ↓kN3_ap, ↓bodyN_nil, ↓bodyN_cons, ↓kBN_ap, ↓kBC_ap, ↓bodyD_ap, ↓kBD1_ap, ↓kBD2_ap, goes_nx, goes_ct, tc_if, tn_if, fc_Machine_signs, fp_Machine_signs, fg_Machine_signs_0, fg_Machine_signs_1, fg_Machine_signs_2, fg_Machine_signs_3, fc_Machine_rows, fp_Machine_rows, fg_Machine_rows_1, fg_Machine_rows_2, fg_Machine_rows_3, fc_Machine_ends, fp_Machine_ends, fg_Machine_ends_2, fg_Machine_ends_3, fc_Machine_all_keys, fp_Machine_all_keys, fg_Machine_all_keys_3, fm_Machine_after, fm_Machine_far_keys, fm_Machine_keys_of, fm_Machine_read, ↓strC_ap, ↓kStrC_ap, strO_str, strO_ex, ↓makeLO_ap, ↓kML_ap, ↓cmO_ap, ↓clsA_ap, ↓kCls_ap, ↓starS_ap, ↓kStarS_ap, ↓enIK_ap, ↓kEnIK_ap, ↓u_Machine_init_v1, ↓d_Machine_init_v1, h1]
  rfl
end Nv
-- S_3b
-- classes: Machine
-- n84
namespace Nv
open PySem PySem.Spec PyProof.Rows L2
def zW (w : Way) : WayZ := (((w.1 : Nat) : Int), w.2)
def zM (rows : List (List Way)) : RwZ := rows.map fun r => r.map zW
def nW (w : WayZ) : Way := (w.1.toNat, w.2)
def nM (rows : RwZ) : List (List Way) := rows.map fun r => r.map nW
theorem rws_z (rows : List (List Way)) : rwsZ (zM rows) = rwsI false rows := by
  unfold rwsZ zM rwsI
  rw [List.map_map]
  congr 1
  refine List.map_congr_left fun r _ => ?_
  show D.lst ((r.map zW).map wyZ) = .lst (r.map (wyI false))
  rw [List.map_map]
  rfl
theorem fbR_none {n : Nat} : ∀ {r : List WayZ} {j : Nat}, fbR n j r = none → ∀ w ∈ r, 0 ≤ w.1 ∧ w.1 < (n : Int)
  | [], _, _ => fun w hw => nomatch hw
  | x :: r, j, h => fun w hw => by
    unfold fbR at h
    split at h
    · rename_i c
      rcases List.mem_cons.mp hw with rfl | hw
      · exact c
      · exact fbR_none h w hw
    · cases h
theorem fbM_none {n : Nat} : ∀ {rs : RwZ} {s : Nat}, fbM n s rs = none → ∀ r ∈ rs, ∀ w ∈ r, 0 ≤ w.1 ∧ w.1 < (n : Int)
  | [], _, _ => fun r hr => nomatch hr
  | x :: rs, s, h => fun r hr => by
    unfold fbM at h
    split at h
    · cases h
    · rename_i c
      rcases List.mem_cons.mp hr with rfl | hr
      · exact fbR_none c
      · exact fbM_none h r hr
theorem zn {rows : RwZ} {n s : Nat} (h : fbM n s rows = none) : zM (nM rows) = rows := by
  unfold zM nM
  rw [List.map_map]
  have e : ∀ r ∈ rows, ((fun r : List Way => r.map zW) ∘ fun r : List WayZ => r.map nW) r = r := fun r hr => by
    show (r.map nW).map zW = r
    rw [List.map_map]
    have e2 : ∀ w ∈ r, (zW ∘ nW) w = w := fun w hw => by
      have := (fbM_none h r hr w hw).1
      show (((w.1.toNat : Nat) : Int), w.2) = w
      rw [Int.toNat_of_nonneg this]
    rw [List.map_congr_left e2, List.map_id']
  rw [List.map_congr_left e, List.map_id']
def allZ (rows : RwZ) (ends : List (List Tx)) : List Tx := ends.flatten ++ rows.flatMap fun r => r.flatMap fun w => w.2
structure TzOk (words : List Tx) (rows : RwZ) (ends : List (List Tx)) : Prop where
  row : ∀ r ∈ rows, r.length ≤ 4
  nr : rows.length ≤ 16
  n0 : ends ≠ []
  ne : ends.length ≤ 16
  way : ∀ r ∈ rows, ∀ w ∈ r, w.2.length ≤ 2 ∧ ∀ k ∈ w.2, k ∈ words
  en : ∀ e ∈ ends, e.length ≤ 13 ∧ ∀ k ∈ e, k ∈ words
theorem allZ_asc {rows : RwZ} {ends : List (List Tx)} : asc (allL (nM rows) ends) = asc (allZ rows ends) := asc_ext fun x => by
  unfold allL allZ givenK nM
  rw [List.mem_append, List.mem_append, List.mem_flatMap, List.mem_flatMap, List.mem_flatMap, List.mem_flatten]
  constructor
  · rintro (⟨r, hr, hx⟩ | ⟨e, he, hx⟩)
    · obtain ⟨r', hr', rfl⟩ := List.mem_map.mp hr
      obtain ⟨w, hw, hx⟩ := List.mem_flatMap.mp hx
      obtain ⟨w', hw', rfl⟩ := List.mem_map.mp hw
      exact .inr ⟨r', hr', List.mem_flatMap.mpr ⟨w', hw', asc_mem.mp hx⟩⟩
    · exact .inl ⟨e, he, asc_mem.mp hx⟩
  · rintro (⟨e, he, hx⟩ | ⟨r, hr, hx⟩)
    · exact .inr ⟨e, he, asc_mem.mpr hx⟩
    · obtain ⟨w, hw, hx⟩ := List.mem_flatMap.mp hx
      exact .inl ⟨_, List.mem_map_of_mem hr, List.mem_flatMap.mpr ⟨nW w, List.mem_map_of_mem hw, asc_mem.mpr hx⟩⟩
section
variable {words : List Tx} {rows : RwZ} {ends : List (List Tx)}
theorem TzOk.allW (h : TzOk words rows ends) : ∀ k ∈ allZ rows ends, k ∈ words := fun k hk => by
  unfold allZ at hk
  rcases List.mem_append.mp hk with hk | hk
  · obtain ⟨e, he, hx⟩ := List.mem_flatten.mp hk
    exact (h.en e he).2 k hx
  · obtain ⟨r, hr, hx⟩ := List.mem_flatMap.mp hk
    obtain ⟨w, hw, hx⟩ := List.mem_flatMap.mp hx
    exact (h.way r hr w hw).2 k hx
theorem TzOk.rowsL (h : TzOk words rows ends) : (rows.flatMap fun r => r.flatMap fun w => w.2).length ≤ 128 := by
  have q := flatN_le (fun r : List WayZ => r.flatMap fun w => w.2) 8 rows fun r hr => by
    have q := flatN_le (fun w : WayZ => w.2) 2 r fun w hw => (h.way r hr w hw).1
    have := h.row r hr
    omega
  have := h.nr
  omega
theorem TzOk.endsL (h : TzOk words rows ends) : ends.flatten.length ≤ 208 := by
  have q := flatN_le (fun e : List Tx => e) 13 ends fun e he => (h.en e he).1
  have e : (ends.flatMap fun e => e) = ends.flatten := by rw [List.flatMap_id']
  rw [e] at q
  have := h.ne
  omega
theorem TzOk.keys (h : TzOk words rows ends) (hw : words.length ≤ 13) : KeysB (nM rows) ends := by
  have nm : ∀ {r : List Way}, r ∈ nM rows → ∃ r', r' ∈ rows ∧ r = r'.map nW := fun {r} hr => by
    obtain ⟨r', h1, h2⟩ := List.mem_map.mp hr
    exact ⟨r', h1, h2.symm⟩
  have ga : (givenK (nM rows)).length ≤ 16 * 8 := by
    have q := flatN_le (fun r : List Way => r.flatMap fun w => asc w.2) 8 (nM rows) fun r hr => by
      obtain ⟨r', hr', rfl⟩ := nm hr
      have q := flatN_le (fun w : Way => asc w.2) 2 (r'.map nW) fun w hw => by
        obtain ⟨w', hw', rfl⟩ := List.mem_map.mp hw
        exact asc_le (h.way r' hr' w' hw').1
      have := h.row r' hr'
      rw [List.length_map] at q
      omega
    have := h.nr
    have e : (nM rows).length = rows.length := List.length_map ..
    unfold givenK
    omega
  have gb : (ends.flatMap asc).length ≤ 16 * 13 := by
    have q := flatN_le (fun e : List Tx => asc e) 13 ends fun e he => asc_le (h.en e he).1
    have := h.ne
    exact Nat.le_trans q (by omega)
  refine ⟨fun r hr w hw => ?_, fun e he => ?_, fun r hr => ?_, ?_, ?_, ?_, ?_⟩
  · obtain ⟨r', hr', rfl⟩ := nm hr
    obtain ⟨w', hw', rfl⟩ := List.mem_map.mp hw
    have := (h.way r' hr' w' hw').1
    show w'.2.length ≤ 60
    omega
  · have := (h.en e he).1
    omega
  · obtain ⟨r', hr', rfl⟩ := nm hr
    have := h.row r' hr'
    rw [List.length_map]
    omega
  · have := h.nr
    have e : (nM rows).length = rows.length := List.length_map ..
    omega
  · have := h.ne
    omega
  · unfold allL
    rw [List.length_append]
    omega
  · have := ded_le_w (words := words) (l := allL (nM rows) ends) fun x hx => by
      have : x ∈ asc (allL (nM rows) ends) := asc_mem.mpr hx
      rw [allZ_asc] at this
      exact h.allW x (asc_mem.mp this)
    omega
end
def resZ (rows : RwZ) (ends : List (List Tx)) : D := match fbM rows.length 0 rows with
  | some p => .tup [.str ("machine" : Str), .int (p.1 : Nat), .int (p.2 : Nat), .bl true]
  | none => if (asc (allZ rows ends)).length ≤ 12 then .int ((asc (allZ rows ends)).length : Nat) else .tup [.str ("many" : Str), .str ("keys" : Str)]
theorem told3_ok {words : List Tx} {rows : RwZ} {ends : List (List Tx)} (sg : Tx) (h : TzOk words rows ends) (hw : words.length ≤ 13) :
    f__law_told_v7 [.dat (tD sg), .dat (.tup [rwsZ rows, ensI false false ends])] = .ok (.dat (resZ rows ends)) [.dat (tD sg), .dat (.tup [rwsZ rows, ensI false false ends])] := by
  unfold resZ
  cases e : fbM rows.length 0 rows with
  | some p =>
    dsimp only
    have ini := init_bad sg rows (ensI false false ends) p e
    have mk : ∀ Γ, makeR ("Machine" : Str) f_Machine_init_v1 [.dat (tD sg), .dat (rwsZ rows), .dat (ensI false false ends)] Γ = .ex ("BadMachine" : Str) (bmD p.1 p.2) Γ := fun Γ => by
      show (match f_Machine_init_v1 [.own (.ins ("Machine" : Str) []), .dat (tD sg), .dat (rwsZ rows), .dat (ensI false false ends)] with
        | .ok (.dat .non) (.own _ o :: _) => Rs.ok (AV.own o) Γ
        | .ex n l _ => .ex n l Γ
        | _ => .bad) = _
      rw [ini]
    have c1 : (("BadMachine" : Str) ∈ [("BadMachine" : Str), ("TooMany" : Str)]) = True := eq_true (by decide)
    have c2 : errSub ("BadMachine" : Str) ("BadMachine" : Str) = true := by decide
    have c3 : gXf [(("BadMachine" : Str), [("state" : Str), ("place" : Str)]), (("TooMany" : Str), [("what" : Str)])] ("state" : Str) (.exn ("BadMachine" : Str) (bmD p.1 p.2)) = some (.dat (.int (p.1 : Nat))) := rfl
    have c4 : gXf [(("BadMachine" : Str), [("state" : Str), ("place" : Str)]), (("TooMany" : Str), [("what" : Str)])] ("place" : Str) (.exn ("BadMachine" : Str) (bmD p.1 p.2)) = some (.dat (.int (p.2 : Nat))) := rfl
    have c5 : gXi [(("BadMachine" : Str), [("state" : Str), ("place" : Str)]), (("TooMany" : Str), [("what" : Str)])] [("MissError" : Str)] (.exn ("BadMachine" : Str) (bmD p.1 p.2)) (.cls ("MissError" : Str)) = some (.dat (.bl true)) := by
      rfl
    simp_all! only [↓turnF_ap, kF1_ap, ↓turnC_ap, ↓kC1_ap, ↓kC2_ap, ↓kC3_ap, ↓turnN_ap, ↓kN1_ap, ↓kN2_ap, ↓kN3_ap, ↓bodyN_nil, ↓bodyN_cons, ↓kBN_ap, ↓kBC_ap, ↓bodyD_ap, ↓kBD1_ap, ↓kBD2_ap, goes_nx, goes_ct, tc_if, tn_if, fc_Machine_signs, fp_Machine_signs, fg_Machine_signs_0, fg_Machine_signs_1, fg_Machine_signs_2, fg_Machine_signs_3, fc_Machine_rows, fp_Machine_rows, fg_Machine_rows_1, fg_Machine_rows_2, fg_Machine_rows_3, fc_Machine_ends, fp_Machine_ends, fg_Machine_ends_2, fg_Machine_ends_3, fc_Machine_all_keys, fp_Machine_all_keys, fg_Machine_all_keys_3, fm_Machine_after, fm_Machine_far_keys, fm_Machine_keys_of, fm_Machine_read, ↓strC_ap, ↓kStrC_ap, strO_str, strO_ex, ↓makeLO_ap, ↓kML_ap, ↓cmO_ap, ↓clsA_ap, ↓kCls_ap, ↓starS_ap, ↓kStarS_ap, ↓enIK_ap, ↓kEnIK_ap, ↓u__law_told_v7, ↓d__law_told_v7, ↓b__law_told_v7_1, ↓h__law_told_v7_1, mk, c1, c2, ↓c3, ↓c4, ↓c5]
  | none =>
    dsimp only
    have kb := h.keys hw
    have hg : ∀ r ∈ nM rows, ∀ w ∈ r, w.1 < (nM rows).length := fun r hr w hw => by
      obtain ⟨r', hr', rfl⟩ := List.mem_map.mp hr
      obtain ⟨w', hw', rfl⟩ := List.mem_map.mp hw
      have := fbM_none e r' hr' w' hw'
      show w'.1.toNat < (nM rows).length
      have e : (nM rows).length = rows.length := List.length_map ..
      omega
    have ini := initB sg (nM rows) ends kb hg
    rw [allZ_asc, ← rws_z, zn e] at ini
    obtain ⟨n, en⟩ : ∃ n, n = (asc (allZ rows ends)).length := ⟨_, rfl⟩
    by_cases c : n ≤ 12
    · rw [← en, if_pos c] at ini ⊢
      have mk : ∀ Γ, makeR ("Machine" : Str) f_Machine_init_v1 [.dat (tD sg), .dat (rwsZ rows), .dat (ensI false false ends)] Γ = .ok (.own (mcO sg (nM rows) ends)) Γ := fun Γ => makeR_mk (ds := [tD sg, rwsZ rows, ensI false false ends]) rfl ini
      have o1 : mcO sg (nM rows) ends = .ins ("Machine" : Str) (machF sg (nM rows) ends) := rfl
      simp_all! only [↓turnF_ap, kF1_ap, ↓turnC_ap, ↓kC1_ap, ↓kC2_ap, ↓kC3_ap, ↓turnN_ap, ↓kN1_ap, ↓kN2_ap, ↓kN3_ap, ↓bodyN_nil, ↓bodyN_cons, ↓kBN_ap, ↓kBC_ap, ↓bodyD_ap, ↓kBD1_ap, ↓kBD2_ap, goes_nx, goes_ct, tc_if, tn_if, fc_Machine_signs, fp_Machine_signs, fg_Machine_signs_0, fg_Machine_signs_1, fg_Machine_signs_2, fg_Machine_signs_3, fc_Machine_rows, fp_Machine_rows, fg_Machine_rows_1, fg_Machine_rows_2, fg_Machine_rows_3, fc_Machine_ends, fp_Machine_ends, fg_Machine_ends_2, fg_Machine_ends_3, fc_Machine_all_keys, fp_Machine_all_keys, fg_Machine_all_keys_3, fm_Machine_after, fm_Machine_far_keys, fm_Machine_keys_of, fm_Machine_read, ↓strC_ap, ↓kStrC_ap, strO_str, strO_ex, ↓makeLO_ap, ↓kML_ap, ↓cmO_ap, ↓clsA_ap, ↓kCls_ap, ↓starS_ap, ↓kStarS_ap, ↓enIK_ap, ↓kEnIK_ap, ↓u__law_told_v7, ↓d__law_told_v7, ↓b__law_told_v7_1, mk, o1, machF, allZ_asc, ← en]
    · rw [← en, if_neg c] at ini ⊢
      have mk : ∀ Γ, makeR ("Machine" : Str) f_Machine_init_v1 [.dat (tD sg), .dat (rwsZ rows), .dat (ensI false false ends)] Γ = .ex ("TooMany" : Str) [(("what" : Str), .str ("keys" : Str))] Γ := fun Γ => by
        show (match f_Machine_init_v1 [.own (.ins ("Machine" : Str) []), .dat (tD sg), .dat (rwsZ rows), .dat (ensI false false ends)] with
          | .ok (.dat .non) (.own _ o :: _) => Rs.ok (AV.own o) Γ
          | .ex n l _ => .ex n l Γ
          | _ => .bad) = _
        rw [ini]
      have c1 : (("TooMany" : Str) ∈ [("BadMachine" : Str), ("TooMany" : Str)]) = True := eq_true (by decide)
      have c2 : errSub ("TooMany" : Str) ("TooMany" : Str) = true := by decide
      have c4 : errSub ("TooMany" : Str) ("BadMachine" : Str) = false := by decide
      have c3 : gXf [(("BadMachine" : Str), [("state" : Str), ("place" : Str)]), (("TooMany" : Str), [("what" : Str)])] ("what" : Str) (.exn ("TooMany" : Str) [(("what" : Str), .str ("keys" : Str))]) = some (.dat (.str ("keys" : Str))) := rfl
      simp_all! only [↓turnF_ap, kF1_ap, ↓turnC_ap, ↓kC1_ap, ↓kC2_ap, ↓kC3_ap, ↓turnN_ap, ↓kN1_ap, ↓kN2_ap, ↓kN3_ap, ↓bodyN_nil, ↓bodyN_cons, ↓kBN_ap, ↓kBC_ap, ↓bodyD_ap, ↓kBD1_ap, ↓kBD2_ap, goes_nx, goes_ct, tc_if, tn_if, fc_Machine_signs, fp_Machine_signs, fg_Machine_signs_0, fg_Machine_signs_1, fg_Machine_signs_2, fg_Machine_signs_3, fc_Machine_rows, fp_Machine_rows, fg_Machine_rows_1, fg_Machine_rows_2, fg_Machine_rows_3, fc_Machine_ends, fp_Machine_ends, fg_Machine_ends_2, fg_Machine_ends_3, fc_Machine_all_keys, fp_Machine_all_keys, fg_Machine_all_keys_3, fm_Machine_after, fm_Machine_far_keys, fm_Machine_keys_of, fm_Machine_read, ↓strC_ap, ↓kStrC_ap, strO_str, strO_ex, ↓makeLO_ap, ↓kML_ap, ↓cmO_ap, ↓clsA_ap, ↓kCls_ap, ↓starS_ap, ↓kStarS_ap, ↓enIK_ap, ↓kEnIK_ap, ↓u__law_told_v7, ↓d__law_told_v7, ↓b__law_told_v7_1, ↓h__law_told_v7_1, ↓h__law_told_v7_2, mk, c1, c2, c4, ↓c3]
end Nv
-- S_3c
-- classes: Machine
-- n84
namespace Nv
open PySem PySem.Spec PyProof.Rows L2
theorem range_zip3 {α : Type} (l : List α) : rangeD 0 l.length = (l.zipIdx 0).map fun p => D.int (0 + (p.2 : Nat)) := by
  rw [range_map]
  refine List.ext_getElem (by simp) fun i h1 h2 => ?_
  simp
def duI (rows : RwZ) (ends : List (List Tx)) (s : Nat) (fs : List Tx) : Ev := [.dat (.tup [rwsZ rows, ensI false false ends]), .dat (rwsZ rows), .dat (ensI false false ends), .own none (.lst (fs.map tD)), .un, .dat (.int (s : Nat)), .un]
def duX (rows : RwZ) (ends : List (List Tx)) (s j : Nat) (fs : List Tx) : Ev := [.dat (.tup [rwsZ rows, ensI false false ends]), .dat (rwsZ rows), .dat (ensI false false ends), .own none (.lst (fs.map tD)), .un, .dat (.int (s : Nat)), .dat (.int (j : Nat))]
def mcT (s j : Nat) : D := .tup [.str ("machine" : Str), .int (s : Nat), .int (j : Nat), .bl true]
section
variable {rows : RwZ} {ends : List (List Tx)}
theorem du_go {s j : Nat} {r : List WayZ} {w : WayZ} (fs : List Tx) (hr : rows[s]? = some r) (hw : r[j]? = some w) (c : 0 ≤ w.1 ∧ w.1 < (rows.length : Int)) (hl : fs.length + w.2.length ≤ 100000) :
    turnF (tName 6) b__law_due_v9_1 (.int (0 + (j : Nat))) (duI rows ends s fs) = .nx (duI rows ends s (fs ++ w.2)) := by
  obtain ⟨c1, c2⟩ := c
  have q1 : (rows.map rwZ)[s]? = some (.lst (r.map wyZ)) := by rw [List.getElem?_map, hr]; rfl
  have q2 : (r.map wyZ)[j]? = some (.tup [.int w.1, .lst (w.2.map tD)]) := by rw [List.getElem?_map, hw]; rfl
  have m1 : (fs ++ w.2).map tD = fs.map tD ++ w.2.map tD := List.map_append
  have sl2 : (fs.length + w.2.length ≤ 16777216) = True := eq_true (by omega)
  unfold duI
  rw [m1]
  simp_all! only [↓turnF_ap, kF1_ap, ↓turnC_ap, ↓kC1_ap, ↓kC2_ap, ↓kC3_ap, ↓turnN_ap, ↓kN1_ap, ↓kN2_ap, ↓kN3_ap, ↓bodyN_nil, ↓bodyN_cons, ↓kBN_ap, ↓kBC_ap, ↓bodyD_ap, ↓kBD1_ap, ↓kBD2_ap, goes_nx, goes_ct, tc_if, tn_if, fc_Machine_signs, fp_Machine_signs, fg_Machine_signs_0, fg_Machine_signs_1, fg_Machine_signs_2, fg_Machine_signs_3, fc_Machine_rows, fp_Machine_rows, fg_Machine_rows_1, fg_Machine_rows_2, fg_Machine_rows_3, fc_Machine_ends, fp_Machine_ends, fg_Machine_ends_2, fg_Machine_ends_3, fc_Machine_all_keys, fp_Machine_all_keys, fg_Machine_all_keys_3, fm_Machine_after, fm_Machine_far_keys, fm_Machine_keys_of, fm_Machine_read, ↓strC_ap, ↓kStrC_ap, strO_str, strO_ex, ↓makeLO_ap, ↓kML_ap, ↓cmO_ap, ↓clsA_ap, ↓kCls_ap, ↓starS_ap, ↓kStarS_ap, ↓enIK_ap, ↓kEnIK_ap, ↓b__law_due_v9_1, rwsZ, q1, q2, sl2]
theorem du_rt {s j : Nat} {r : List WayZ} {w : WayZ} (fs : List Tx) (hr : rows[s]? = some r) (hw : r[j]? = some w) (c : ¬ (0 ≤ w.1 ∧ w.1 < (rows.length : Int))) :
    turnF (tName 6) b__law_due_v9_1 (.int (0 + (j : Nat))) (duI rows ends s fs) = .rt (.dat (mcT s j)) (duX rows ends s j fs) := by
  have q1 : (rows.map rwZ)[s]? = some (.lst (r.map wyZ)) := by rw [List.getElem?_map, hr]; rfl
  have q2 : (r.map wyZ)[j]? = some (.tup [.int w.1, .lst (w.2.map tD)]) := by rw [List.getElem?_map, hw]; rfl
  by_cases c1 : 0 ≤ w.1
  · have c2 : ¬ w.1 < (rows.length : Int) := fun z => c ⟨c1, z⟩
    unfold duI
    simp_all! only [↓turnF_ap, kF1_ap, ↓turnC_ap, ↓kC1_ap, ↓kC2_ap, ↓kC3_ap, ↓turnN_ap, ↓kN1_ap, ↓kN2_ap, ↓kN3_ap, ↓bodyN_nil, ↓bodyN_cons, ↓kBN_ap, ↓kBC_ap, ↓bodyD_ap, ↓kBD1_ap, ↓kBD2_ap, goes_nx, goes_ct, tc_if, tn_if, fc_Machine_signs, fp_Machine_signs, fg_Machine_signs_0, fg_Machine_signs_1, fg_Machine_signs_2, fg_Machine_signs_3, fc_Machine_rows, fp_Machine_rows, fg_Machine_rows_1, fg_Machine_rows_2, fg_Machine_rows_3, fc_Machine_ends, fp_Machine_ends, fg_Machine_ends_2, fg_Machine_ends_3, fc_Machine_all_keys, fp_Machine_all_keys, fg_Machine_all_keys_3, fm_Machine_after, fm_Machine_far_keys, fm_Machine_keys_of, fm_Machine_read, ↓strC_ap, ↓kStrC_ap, strO_str, strO_ex, ↓makeLO_ap, ↓kML_ap, ↓cmO_ap, ↓clsA_ap, ↓kCls_ap, ↓starS_ap, ↓kStarS_ap, ↓enIK_ap, ↓kEnIK_ap, ↓b__law_due_v9_1, rwsZ, q1, q2, mcT, duX]
  · unfold duI
    simp_all! only [↓turnF_ap, kF1_ap, ↓turnC_ap, ↓kC1_ap, ↓kC2_ap, ↓kC3_ap, ↓turnN_ap, ↓kN1_ap, ↓kN2_ap, ↓kN3_ap, ↓bodyN_nil, ↓bodyN_cons, ↓kBN_ap, ↓kBC_ap, ↓bodyD_ap, ↓kBD1_ap, ↓kBD2_ap, goes_nx, goes_ct, tc_if, tn_if, fc_Machine_signs, fp_Machine_signs, fg_Machine_signs_0, fg_Machine_signs_1, fg_Machine_signs_2, fg_Machine_signs_3, fc_Machine_rows, fp_Machine_rows, fg_Machine_rows_1, fg_Machine_rows_2, fg_Machine_rows_3, fc_Machine_ends, fp_Machine_ends, fg_Machine_ends_2, fg_Machine_ends_3, fc_Machine_all_keys, fp_Machine_all_keys, fg_Machine_all_keys_3, fm_Machine_after, fm_Machine_far_keys, fm_Machine_keys_of, fm_Machine_read, ↓strC_ap, ↓kStrC_ap, strO_str, strO_ex, ↓makeLO_ap, ↓kML_ap, ↓cmO_ap, ↓clsA_ap, ↓kCls_ap, ↓starS_ap, ↓kStarS_ap, ↓enIK_ap, ↓kEnIK_ap, ↓b__law_due_v9_1, rwsZ, q1, q2, mcT, duX]
theorem du_in0 {s : Nat} {r : List WayZ} (hr : rows[s]? = some r) : ∀ (l : List WayZ) (k : Nat) (fs : List Tx), (∀ i w, l[i]? = some w → r[k + i]? = some w) → fbR rows.length k l = none → fs.length + (l.flatMap fun w => w.2).length ≤ 100000 →
    forL (tName 6) b__law_due_v9_1 ((l.zipIdx k).map fun p => D.int (0 + (p.2 : Nat))) (duI rows ends s fs) = .nx (duI rows ends s (fs ++ l.flatMap fun w => w.2))
  | [], k, fs, _, _, _ => by rw [List.flatMap_nil, List.append_nil]; rfl
  | w :: l, k, fs, hi, h, hl => by
    rw [List.flatMap_cons, List.length_append] at hl
    unfold fbR at h
    split at h
    · rename_i c
      rw [List.zipIdx_cons, List.map_cons, forL_go (.inl (du_go fs hr (show r[k]? = some w from hi 0 w rfl) c (by omega)))]
      rw [du_in0 hr l (k + 1) (fs ++ w.2) (fun i w' e => by
        have := hi (i + 1) w' (by simpa using e)
        rw [← this]
        congr 1
        omega) h (by rw [List.length_append]; omega), List.flatMap_cons, List.append_assoc]
    · cases h
theorem du_in1 {s : Nat} {r : List WayZ} (hr : rows[s]? = some r) : ∀ (l : List WayZ) (k p : Nat) (fs : List Tx), (∀ i w, l[i]? = some w → r[k + i]? = some w) → fbR rows.length k l = some p → fs.length + (l.flatMap fun w => w.2).length ≤ 100000 →
    ∃ fs', forL (tName 6) b__law_due_v9_1 ((l.zipIdx k).map fun p => D.int (0 + (p.2 : Nat))) (duI rows ends s fs) = .rt (.dat (mcT s p)) (duX rows ends s p fs')
  | [], k, p, fs, _, h, _ => by cases h
  | w :: l, k, p, fs, hi, h, hl => by
    rw [List.flatMap_cons, List.length_append] at hl
    unfold fbR at h
    split at h
    · rename_i c
      rw [List.zipIdx_cons, List.map_cons, forL_go (.inl (du_go fs hr (show r[k]? = some w from hi 0 w rfl) c (by omega)))]
      exact du_in1 hr l (k + 1) p (fs ++ w.2) (fun i w' e => by
        have := hi (i + 1) w' (by simpa using e)
        rw [← this]
        congr 1
        omega) h (by rw [List.length_append]; omega)
    · rename_i c
      cases h
      rw [List.zipIdx_cons, List.map_cons]
      exact ⟨fs, forL_rt (du_rt fs hr (show r[k]? = some w from hi 0 w rfl) c)⟩
def duE (rows : RwZ) (ends : List (List Tx)) (fs : List Tx) : Ev := [.dat (.tup [rwsZ rows, ensI false false ends]), .dat (rwsZ rows), .dat (ensI false false ends), .own none (.lst (fs.map tD)), .un, .un, .un]
theorem du_turn0 {s : Nat} {r : List WayZ} (fs : List Tx) (hr : rows[s]? = some r) (h : fbR rows.length 0 r = none) (hl : fs.length + (r.flatMap fun w => w.2).length ≤ 100000) (hn : r.length ≤ 1000) :
    turnF (tName 5) b__law_due_v9_2 (.int (0 + (s : Nat))) (duE rows ends fs) = .nx (duE rows ends (fs ++ r.flatMap fun w => w.2)) := by
  have q1 : (rows.map rwZ)[s]? = some (.lst (r.map wyZ)) := by rw [List.getElem?_map, hr]; rfl
  have r1 : rngOk ((r.length : Nat) : Int) = true := rng_t (by omega) (by omega)
  have lo := du_in0 (ends := ends) hr r 0 fs (fun i w e => by rw [Nat.zero_add]; exact e) h hl
  rw [← range_zip3] at lo
  unfold duI at lo
  unfold rwsZ at lo
  unfold duE
  simp_all! only [↓turnF_ap, kF1_ap, ↓turnC_ap, ↓kC1_ap, ↓kC2_ap, ↓kC3_ap, ↓turnN_ap, ↓kN1_ap, ↓kN2_ap, ↓kN3_ap, ↓bodyN_nil, ↓bodyN_cons, ↓kBN_ap, ↓kBC_ap, ↓bodyD_ap, ↓kBD1_ap, ↓kBD2_ap, goes_nx, goes_ct, tc_if, tn_if, fc_Machine_signs, fp_Machine_signs, fg_Machine_signs_0, fg_Machine_signs_1, fg_Machine_signs_2, fg_Machine_signs_3, fc_Machine_rows, fp_Machine_rows, fg_Machine_rows_1, fg_Machine_rows_2, fg_Machine_rows_3, fc_Machine_ends, fp_Machine_ends, fg_Machine_ends_2, fg_Machine_ends_3, fc_Machine_all_keys, fp_Machine_all_keys, fg_Machine_all_keys_3, fm_Machine_after, fm_Machine_far_keys, fm_Machine_keys_of, fm_Machine_read, ↓strC_ap, ↓kStrC_ap, strO_str, strO_ex, ↓makeLO_ap, ↓kML_ap, ↓cmO_ap, ↓clsA_ap, ↓kCls_ap, ↓starS_ap, ↓kStarS_ap, ↓enIK_ap, ↓kEnIK_ap, ↓b__law_due_v9_2, rwsZ, q1, r1, lo]
theorem du_turn1 {s p : Nat} {r : List WayZ} (fs : List Tx) (hr : rows[s]? = some r) (h : fbR rows.length 0 r = some p) (hl : fs.length + (r.flatMap fun w => w.2).length ≤ 100000) (hn : r.length ≤ 1000) :
    ∃ fs', turnF (tName 5) b__law_due_v9_2 (.int (0 + (s : Nat))) (duE rows ends fs) = .rt (.dat (mcT s p)) (duX rows ends s p fs') := by
  have q1 : (rows.map rwZ)[s]? = some (.lst (r.map wyZ)) := by rw [List.getElem?_map, hr]; rfl
  have r1 : rngOk ((r.length : Nat) : Int) = true := rng_t (by omega) (by omega)
  obtain ⟨fs', lo⟩ := du_in1 (ends := ends) hr r 0 p fs (fun i w e => by rw [Nat.zero_add]; exact e) h hl
  rw [← range_zip3] at lo
  refine ⟨fs', ?_⟩
  unfold duI at lo
  unfold rwsZ at lo
  unfold duE
  simp_all! only [↓turnF_ap, kF1_ap, ↓turnC_ap, ↓kC1_ap, ↓kC2_ap, ↓kC3_ap, ↓turnN_ap, ↓kN1_ap, ↓kN2_ap, ↓kN3_ap, ↓bodyN_nil, ↓bodyN_cons, ↓kBN_ap, ↓kBC_ap, ↓bodyD_ap, ↓kBD1_ap, ↓kBD2_ap, goes_nx, goes_ct, tc_if, tn_if, fc_Machine_signs, fp_Machine_signs, fg_Machine_signs_0, fg_Machine_signs_1, fg_Machine_signs_2, fg_Machine_signs_3, fc_Machine_rows, fp_Machine_rows, fg_Machine_rows_1, fg_Machine_rows_2, fg_Machine_rows_3, fc_Machine_ends, fp_Machine_ends, fg_Machine_ends_2, fg_Machine_ends_3, fc_Machine_all_keys, fp_Machine_all_keys, fg_Machine_all_keys_3, fm_Machine_after, fm_Machine_far_keys, fm_Machine_keys_of, fm_Machine_read, ↓strC_ap, ↓kStrC_ap, strO_str, strO_ex, ↓makeLO_ap, ↓kML_ap, ↓cmO_ap, ↓clsA_ap, ↓kCls_ap, ↓starS_ap, ↓kStarS_ap, ↓enIK_ap, ↓kEnIK_ap, ↓b__law_due_v9_2, rwsZ, q1, r1, lo]
theorem du_out0 : ∀ (l : RwZ) (k : Nat) (fs : List Tx), (∀ i r, l[i]? = some r → rows[k + i]? = some r) → (∀ r ∈ l, r.length ≤ 1000) → fbM rows.length k l = none → fs.length + (l.flatMap fun r => r.flatMap fun w => w.2).length ≤ 100000 →
    forL (tName 5) b__law_due_v9_2 ((l.zipIdx k).map fun p => D.int (0 + (p.2 : Nat))) (duE rows ends fs) = .nx (duE rows ends (fs ++ l.flatMap fun r => r.flatMap fun w => w.2))
  | [], k, fs, _, _, _, _ => by rw [List.flatMap_nil, List.append_nil]; rfl
  | r :: l, k, fs, hi, hn, h, hl => by
    rw [List.flatMap_cons, List.length_append] at hl
    unfold fbM at h
    split at h
    · cases h
    · rename_i c
      rw [List.zipIdx_cons, List.map_cons, forL_go (.inl (du_turn0 fs (show rows[k]? = some r from hi 0 r rfl) c (by omega) (hn r List.mem_cons_self)))]
      rw [du_out0 l (k + 1) _ (fun i w' e => by
        have := hi (i + 1) w' (by simpa using e)
        rw [← this]
        congr 1
        omega) (fun r hr => hn r (List.mem_cons_of_mem _ hr)) h (by rw [List.length_append]; omega), List.flatMap_cons, List.append_assoc]
theorem du_out1 : ∀ (l : RwZ) (k : Nat) (p : Nat × Nat) (fs : List Tx), (∀ i r, l[i]? = some r → rows[k + i]? = some r) → (∀ r ∈ l, r.length ≤ 1000) → fbM rows.length k l = some p → fs.length + (l.flatMap fun r => r.flatMap fun w => w.2).length ≤ 100000 →
    ∃ fs', forL (tName 5) b__law_due_v9_2 ((l.zipIdx k).map fun p => D.int (0 + (p.2 : Nat))) (duE rows ends fs) = .rt (.dat (mcT p.1 p.2)) (duX rows ends p.1 p.2 fs')
  | [], k, p, fs, _, _, h, _ => by cases h
  | r :: l, k, p, fs, hi, hn, h, hl => by
    rw [List.flatMap_cons, List.length_append] at hl
    unfold fbM at h
    split at h
    · rename_i c
      cases h
      rw [List.zipIdx_cons, List.map_cons]
      obtain ⟨fs', t⟩ := du_turn1 (ends := ends) fs (show rows[k]? = some r from hi 0 r rfl) c (by omega) (hn r List.mem_cons_self)
      exact ⟨fs', forL_rt t⟩
    · rename_i c
      rw [List.zipIdx_cons, List.map_cons, forL_go (.inl (du_turn0 fs (show rows[k]? = some r from hi 0 r rfl) c (by omega) (hn r List.mem_cons_self)))]
      exact du_out1 l (k + 1) p _ (fun i w' e => by
        have := hi (i + 1) w' (by simpa using e)
        rw [← this]
        congr 1
        omega) (fun r hr => hn r (List.mem_cons_of_mem _ hr)) h (by rw [List.length_append]; omega)
theorem due3_ok {words : List Tx} (h : TzOk words rows ends) (hw : words.length ≤ 13) :
    f__law_due_v9 [.dat (.tup [rwsZ rows, ensI false false ends])] = .ok (.dat (resZ rows ends)) [.dat (.tup [rwsZ rows, ensI false false ends])] := by
  have hr := h.rowsL
  have he := h.endsL
  have hne := h.ne
  have hnr := h.nr
  have cp : ∀ Γ0 : Ev, Γ0 = [.dat (.tup [rwsZ rows, ensI false false ends]), .dat (rwsZ rows), .dat (ensI false false ends), .un, .un, .un, .un] → compL Γ0 (tName 4) yesT q__law_due_v9_1 (ends.map (enI' false)) [] Γ0 = some (ends.map (fun e => D.lst (e.map tD)), Γ0) := fun Γ0 e0 => by
    subst e0
    refine compL_a (enI' false) (fun e => D.lst (e.map tD)) ends (fun e he => ?_) (by rw [sl_eq]; omega)
    simp_all! only [↓turnF_ap, kF1_ap, ↓turnC_ap, ↓kC1_ap, ↓kC2_ap, ↓kC3_ap, ↓turnN_ap, ↓kN1_ap, ↓kN2_ap, ↓kN3_ap, ↓bodyN_nil, ↓bodyN_cons, ↓kBN_ap, ↓kBC_ap, ↓bodyD_ap, ↓kBD1_ap, ↓kBD2_ap, goes_nx, goes_ct, tc_if, tn_if, fc_Machine_signs, fp_Machine_signs, fg_Machine_signs_0, fg_Machine_signs_1, fg_Machine_signs_2, fg_Machine_signs_3, fc_Machine_rows, fp_Machine_rows, fg_Machine_rows_1, fg_Machine_rows_2, fg_Machine_rows_3, fc_Machine_ends, fp_Machine_ends, fg_Machine_ends_2, fg_Machine_ends_3, fc_Machine_all_keys, fp_Machine_all_keys, fg_Machine_all_keys_3, fm_Machine_after, fm_Machine_far_keys, fm_Machine_keys_of, fm_Machine_read, ↓strC_ap, ↓kStrC_ap, strO_str, strO_ex, ↓makeLO_ap, ↓kML_ap, ↓cmO_ap, ↓clsA_ap, ↓kCls_ap, ↓starS_ap, ↓kStarS_ap, ↓enIK_ap, ↓kEnIK_ap, ↓q__law_due_v9_1, enI', sq]
  have cp := cp _ rfl
  have sm : gSumL (.lst (ends.map fun e => D.lst (e.map tD))) (.lst []) = some (.own (.lst (ends.flatten.map tD))) := by
    have e1 : (ends.map fun e => D.lst (e.map tD)) = (ends.map fun e => e.map tD).map D.lst := by rw [List.map_map]; rfl
    have e2 : (ends.map fun e => e.map tD).flatten = ends.flatten.map tD := by rw [List.map_flatten]
    rw [e1, gSumL_map (by intro z; exact h.n0 (List.map_eq_nil_iff.mp z)) (by rw [e2, List.length_map]; omega), e2]
  have eE : ensI false false ends = .lst (ends.map (enI' false)) := rfl
  have r1 : rngOk ((rows.length : Nat) : Int) = true := rng_t (by omega) (by omega)
  have hn : ∀ r ∈ rows, r.length ≤ 1000 := fun r hr => by have := h.row r hr; omega
  unfold resZ
  cases e : fbM rows.length 0 rows with
  | some p =>
    dsimp only
    obtain ⟨fs', lo⟩ := du_out1 (ends := ends) rows 0 p ends.flatten (fun i r e => by rw [Nat.zero_add]; exact e) hn e (by omega)
    rw [← range_zip3] at lo
    unfold duE rwsZ at lo
    rw [eE] at cp lo
    unfold rwsZ at cp
    simp_all! only [↓turnF_ap, kF1_ap, ↓turnC_ap, ↓kC1_ap, ↓kC2_ap, ↓kC3_ap, ↓turnN_ap, ↓kN1_ap, ↓kN2_ap, ↓kN3_ap, ↓bodyN_nil, ↓bodyN_cons, ↓kBN_ap, ↓kBC_ap, ↓bodyD_ap, ↓kBD1_ap, ↓kBD2_ap, goes_nx, goes_ct, tc_if, tn_if, fc_Machine_signs, fp_Machine_signs, fg_Machine_signs_0, fg_Machine_signs_1, fg_Machine_signs_2, fg_Machine_signs_3, fc_Machine_rows, fp_Machine_rows, fg_Machine_rows_1, fg_Machine_rows_2, fg_Machine_rows_3, fc_Machine_ends, fp_Machine_ends, fg_Machine_ends_2, fg_Machine_ends_3, fc_Machine_all_keys, fp_Machine_all_keys, fg_Machine_all_keys_3, fm_Machine_after, fm_Machine_far_keys, fm_Machine_keys_of, fm_Machine_read, ↓strC_ap, ↓kStrC_ap, strO_str, strO_ex, ↓makeLO_ap, ↓kML_ap, ↓cmO_ap, ↓clsA_ap, ↓kCls_ap, ↓starS_ap, ↓kStarS_ap, ↓enIK_ap, ↓kEnIK_ap, ↓u__law_due_v9, ↓d__law_due_v9, rwsZ, eE, cp, sm, r1, lo, mcT, duX]
  | none =>
    dsimp only
    have lo := du_out0 (ends := ends) rows 0 ends.flatten (fun i r e => by rw [Nat.zero_add]; exact e) hn e (by omega)
    rw [← range_zip3] at lo
    have gs := (gLset_S (l := allZ rows ends) (by unfold allZ; rw [List.length_append]; omega)).2
    have el : (ded [] (allZ rows ends)).length = (asc (allZ rows ends)).length := (sortT_perm _).length_eq.symm
    rw [el] at gs
    obtain ⟨n, en⟩ : ∃ n, n = (asc (allZ rows ends)).length := ⟨_, rfl⟩
    rw [← en] at gs ⊢
    have ea : ends.flatten ++ (rows.flatMap fun r => r.flatMap fun w => w.2) = allZ rows ends := rfl
    rw [ea] at lo
    unfold duE rwsZ at lo
    rw [eE] at cp lo
    unfold rwsZ at cp
    by_cases c : n ≤ 12
    · rw [if_pos c]
      simp_all! only [↓turnF_ap, kF1_ap, ↓turnC_ap, ↓kC1_ap, ↓kC2_ap, ↓kC3_ap, ↓turnN_ap, ↓kN1_ap, ↓kN2_ap, ↓kN3_ap, ↓bodyN_nil, ↓bodyN_cons, ↓kBN_ap, ↓kBC_ap, ↓bodyD_ap, ↓kBD1_ap, ↓kBD2_ap, goes_nx, goes_ct, tc_if, tn_if, fc_Machine_signs, fp_Machine_signs, fg_Machine_signs_0, fg_Machine_signs_1, fg_Machine_signs_2, fg_Machine_signs_3, fc_Machine_rows, fp_Machine_rows, fg_Machine_rows_1, fg_Machine_rows_2, fg_Machine_rows_3, fc_Machine_ends, fp_Machine_ends, fg_Machine_ends_2, fg_Machine_ends_3, fc_Machine_all_keys, fp_Machine_all_keys, fg_Machine_all_keys_3, fm_Machine_after, fm_Machine_far_keys, fm_Machine_keys_of, fm_Machine_read, ↓strC_ap, ↓kStrC_ap, strO_str, strO_ex, ↓makeLO_ap, ↓kML_ap, ↓cmO_ap, ↓clsA_ap, ↓kCls_ap, ↓starS_ap, ↓kStarS_ap, ↓enIK_ap, ↓kEnIK_ap, ↓u__law_due_v9, ↓d__law_due_v9, rwsZ, eE, cp, sm, r1, lo, gs]
    · rw [if_neg c]
      have c2 : (12 < (n : Int)) = True := eq_true (by omega)
      simp_all! only [↓turnF_ap, kF1_ap, ↓turnC_ap, ↓kC1_ap, ↓kC2_ap, ↓kC3_ap, ↓turnN_ap, ↓kN1_ap, ↓kN2_ap, ↓kN3_ap, ↓bodyN_nil, ↓bodyN_cons, ↓kBN_ap, ↓kBC_ap, ↓bodyD_ap, ↓kBD1_ap, ↓kBD2_ap, goes_nx, goes_ct, tc_if, tn_if, fc_Machine_signs, fp_Machine_signs, fg_Machine_signs_0, fg_Machine_signs_1, fg_Machine_signs_2, fg_Machine_signs_3, fc_Machine_rows, fp_Machine_rows, fg_Machine_rows_1, fg_Machine_rows_2, fg_Machine_rows_3, fc_Machine_ends, fp_Machine_ends, fg_Machine_ends_2, fg_Machine_ends_3, fc_Machine_all_keys, fp_Machine_all_keys, fg_Machine_all_keys_3, fm_Machine_after, fm_Machine_far_keys, fm_Machine_keys_of, fm_Machine_read, ↓strC_ap, ↓kStrC_ap, strO_str, strO_ex, ↓makeLO_ap, ↓kML_ap, ↓cmO_ap, ↓clsA_ap, ↓kCls_ap, ↓starS_ap, ↓kStarS_ap, ↓enIK_ap, ↓kEnIK_ap, ↓u__law_due_v9, ↓d__law_due_v9, rwsZ, eE, cp, sm, r1, lo, gs, c2]
end
end Nv
-- S_pen2
namespace Nv
open PySem PySem.Spec PyProof.Rows L2
theorem pen_ok (ns : List Int) : f__law_pen [.dat (.fz (ns.map .int))] = .ok (.own (({ cells := ns.take 63, at_ := 0, left := 0 } : Pn).o)) [.dat (.fz (ns.map .int))] := by
  have e : cutL (ns.map D.int) none (some 63) = (ns.take 63).map .int := by
    rw [List.map_take]
    exact cutL_0n (j := 63)
  have c1 : ((((D.str ("cells" : Str)).key.isSome && ((D.str ("at" : Str)).key.isSome && (D.str ("left" : Str)).key.isSome)) = true) ∧ 3 ≤ 15) = True := eq_true (by decide)
  have c2 (x : D) : dput (dput (dput [] (D.str ("cells" : Str)) x) (D.str ("at" : Str)) (D.int 0)) (D.str ("left" : Str)) (D.int 0) = [(D.str ("cells" : Str), x), (D.str ("at" : Str), D.int 0), (D.str ("left" : Str), D.int 0)] := rfl
  simp_all?! only [↓u__law_pen, ↓d__law_pen, e, Pn.o, keysOk, merD, c1, c2]
theorem min_k (k n : Nat) : ∃ m : Nat, m ≤ k ∧ m ≤ n ∧ min2 (k : Nat) (n : Nat) = (m : Nat) := by
  unfold min2
  split
  · exact ⟨n, by omega, by omega, rfl⟩
  · exact ⟨k, by omega, by omega, rfl⟩
end Nv
-- S_draw
namespace Nv
open PySem PySem.Spec PyProof.Rows L2
theorem dr (p : Pn) (n : Nat) (k : Nat) (h0 : 0 < n) (hn : n < 1000000) (h : PB p (k + 1)) (z : Int) (hz : z = (n : Nat)) :
    ∃ (c : Nat) (p' : Pn), f__law_draw [.own p.o, .dat (.int z)] = .ok (.dat (.int (c : Nat))) [.own (some 0) p'.o, .dat (.int z)] ∧ c < n ∧ PB p' k :=
  ⟨_, _, drawN_ok p n h0 (by omega) (h.mono (by omega)) z hz, drawN_lt h0, drawN_pb h⟩
theorem sgL_let : ∀ (n : Nat) (s : Sg), (∀ c ∈ s.left ++ s.found, c ∈ letters) → n ≤ s.left.length → ∀ c ∈ (sgL n s).found, c ∈ letters
  | 0, s, h, _ => fun c hc => h c (List.mem_append_right _ hc)
  | n + 1, s, h, hn => by
    have hk := drawN_lt (p := s.pen) (n := s.left.length) (by omega)
    refine sgL_let n (sgStep s) (fun c hc => ?_) ?_
    · unfold sgStep at hc
      dsimp only at hc
      rcases List.mem_append.mp hc with hc | hc
      · rcases List.mem_append.mp hc with hc | hc
        · exact h c (List.mem_append_left _ (List.mem_of_mem_take hc))
        · exact h c (List.mem_append_left _ (List.mem_of_mem_drop hc))
      · rcases List.mem_append.mp hc with hc | hc
        · exact h c (List.mem_append_right _ hc)
        · rw [List.mem_singleton.mp hc, List.getD_eq_getElem?_getD, List.getElem?_eq_getElem hk]
          exact h _ (List.mem_append_left _ (List.getElem_mem hk))
    · unfold sgStep
      dsimp only
      rw [List.length_append, List.length_take, List.length_drop]
      omega
theorem letters_az : ∀ c ∈ letters, 97 ≤ c ∧ c ≤ 122 := by decide
theorem sgn (p : Pn) (n k : Nat) (hn : n ≤ 26) (h : PB p (k + n)) (z : Int) (hz : z = (n : Nat)) :
    ∃ (sg : Tx) (p' : Pn), f__law_signs [.own p.o, .dat (.int z)] = .ok (.dat (tD sg)) [.own (some 0) p'.o, .dat (.int z)] ∧ sg.length = n ∧ sg.Nodup ∧ (∀ c ∈ sg, 97 ≤ c ∧ c ≤ 122) ∧ PB p' k := by
  subst hz
  refine ⟨_, _, signs_ok p n hn (h.mono (by omega)), signs_len hn (h.mono (by omega)), signs_nd hn (h.mono (by omega)), fun c hc => letters_az c ?_, signs_pb hn h⟩
  exact sgL_let n ⟨letters, [], p⟩ (fun c hc => by simpa using hc) (by show n ≤ 26; exact hn) c hc
end Nv
-- S_3d
-- classes: Machine
-- n84
-- n97
namespace Nv
open PySem PySem.Spec PyProof.Rows L2
def e03 (scr tu sgd wd tb : Slot) (p : Pn) (mat ends : Slot) (G : Ev) : Ev := scr :: .own none p.o :: tu :: sgd :: wd :: .un :: tb :: mat :: ends :: .un :: .un :: .un :: .un :: .un :: G
def rowsL (rows : RwZ) : List (List D) := rows.map fun r => r.map wyZ
section
variable {a0 a1 a2 a3 a4 a5 a6 a7 a8 a9 a10 a11 a12 a13 : Slot} {G : Ev} {m : Nat}
theorem get14 : (a0 :: a1 :: a2 :: a3 :: a4 :: a5 :: a6 :: a7 :: a8 :: a9 :: a10 :: a11 :: a12 :: a13 :: G)[14 + m]? = G[m]? := by rw [Nat.add_comm]; rfl
theorem set14 {x : Slot} : (a0 :: a1 :: a2 :: a3 :: a4 :: a5 :: a6 :: a7 :: a8 :: a9 :: a10 :: a11 :: a12 :: a13 :: G).set (14 + m) x = a0 :: a1 :: a2 :: a3 :: a4 :: a5 :: a6 :: a7 :: a8 :: a9 :: a10 :: a11 :: a12 :: a13 :: G.set m x := by rw [Nat.add_comm]; rfl
end
theorem pick_int (l : List Int) (h0 : l ≠ []) (hl : l.length ≤ 1000) (p : Pn) (k : Nat) (h : PB p (k + 1)) : ∃ (x : Int) (p' : Pn), x ∈ l ∧ f__law_pick [.own p.o, .dat (.lst (l.map D.int))] = .ok (.dat (.int x)) [.own (some 0) p'.o, .dat (.lst (l.map D.int))] ∧ PB p' k := by
  have c1 := drawN_lt (p := p) (n := l.length) (List.length_pos_iff.mpr h0)
  have hk := pickL_ok D.int p l (l[(drawN p l.length).1]'c1) hl (h.mono (by omega)) (List.getElem?_eq_getElem c1)
  exact ⟨_, (drawN p l.length).2, List.getElem_mem c1, hk, drawN_pb h⟩
theorem bent_turn (sg : Tx) (k : Nat) (rows : RwZ) (p : Pn) (h : PB p (k + 3)) (hn : 0 < rows.length) (hn2 : rows.length ≤ 16) (hr : ∀ r ∈ rows, r.length = sg.length) (hs : 0 < sg.length) (hs4 : sg.length ≤ 4) :
    ∃ (rows' : RwZ) (p' : Pn), PB p' k ∧ (∃ (s j : Nat) (r : List WayZ) (w : WayZ) (z : Int), rows[s]? = some r ∧ r[j]? = some w ∧ rows' = rows.set s (r.set j (z, w.2))) ∧
      ∀ (scr tu wd tb ends : Slot) (t K : Nat) (bs : List Addr) (R : Ev), bs.length = rows.length → bs.Nodup → Goes (turnF (tName 10) (b_law_v47_1 K bs) (.int (0 + (t : Nat))) (e03 scr tu (.dat (tD sg)) wd tb p (.own none (.lst (bs.map D.opq))) ends (ghL K (rowsL rows) ++ R))) (e03 scr tu (.dat (tD sg)) wd tb p' (.own none (.lst (bs.map D.opq))) ends (ghL K (rowsL rows') ++ R)) := by
  obtain ⟨s, p1, d1, l1, b1⟩ := dr p rows.length (k + 2) hn (by omega) (h.mono (by omega)) _ rfl
  obtain ⟨j, p2, d2, l2, b2⟩ := dr p1 sg.length (k + 1) hs (by omega) (b1.mono (by omega)) _ rfl
  have hr1 : rows[s]? = some rows[s] := List.getElem?_eq_getElem l1
  have hl := hr rows[s] (List.getElem_mem l1)
  obtain ⟨r, er⟩ : ∃ r, r = rows[s] := ⟨_, rfl⟩
  rw [← er] at hr1 hl
  have hj : j < r.length := by omega
  have hw : r[j]? = some r[j] := List.getElem?_eq_getElem hj
  obtain ⟨w, ew⟩ : ∃ w, w = r[j] := ⟨_, rfl⟩
  rw [← ew] at hw
  obtain ⟨n, en⟩ : ∃ n, n = rows.length := ⟨_, rfl⟩
  obtain ⟨z, p3, mz, d3, b3⟩ := pick_int [-1, (n : Int), (n : Int) + 1, 0 - (n : Int), 1000000000000000000000000000000] (fun z => nomatch z) (by show 5 ≤ 1000; omega) p2 k (b2.mono (by omega))
  refine ⟨rows.set s (r.set j (z, w.2)), p3, b3, ⟨s, j, r, w, z, hr1, hw, rfl⟩, fun scr tu wd tb ends t K bs R hb nd => .inl ?_⟩
  have lb : s < bs.length := by omega
  have hbs : bs[s]? = some bs[s] := List.getElem?_eq_getElem lb
  have ob : (bs.map D.opq)[s]? = some (.opq bs[s]) := by rw [List.getElem?_map, hbs]; rfl
  have gl : s < (ghL K (rowsL rows)).length := by rw [ghL_len]; unfold rowsL; rw [List.length_map]; exact l1
  have hG : (ghL K (rowsL rows) ++ R)[s]? = some (.own (some (K + s)) (.lst (r.map wyZ))) := by
    rw [List.getElem?_append_left gl, ghL_get]
    unfold rowsL
    rw [List.getElem?_map, hr1]
    rfl
  have hS : (ghL K (rowsL rows) ++ R).set s (.own (some (K + s)) (.lst ((r.map wyZ).set j (wyZ (z, w.2))))) = ghL K (rowsL (rows.set s (r.set j (z, w.2)))) ++ R := by
    rw [List.set_append_left _ _ gl, ghL_set]
    unfold rowsL
    rw [List.map_set, List.map_set]
  obtain ⟨G, eG⟩ : ∃ G, G = ghL K (rowsL rows) ++ R := ⟨_, rfl⟩
  rw [← eG] at hG hS ⊢
  have kr : ∀ a0 a1 a2 a3 a4 a5 a6 a7 a8 a9 a10 a11 a12 a13 : Slot, kRowB 14 K bs (.opq bs[s]) (a0 :: a1 :: a2 :: a3 :: a4 :: a5 :: a6 :: a7 :: a8 :: a9 :: a10 :: a11 :: a12 :: a13 :: G) = .ok (.slot (14 + s)) (a0 :: a1 :: a2 :: a3 :: a4 :: a5 :: a6 :: a7 :: a8 :: a9 :: a10 :: a11 :: a12 :: a13 :: G) :=
    fun _ _ _ _ _ _ _ _ _ _ _ _ _ _ => kRowB_at hbs nd (by rw [get14]; exact hG)
  have q2 : (r.map wyZ)[j]? = some (.tup [.int w.1, .lst (w.2.map tD)]) := by rw [List.getElem?_map, hw]; rfl
  have gp : ∀ d : D, gPut (.lst (r.map wyZ)) (.int (j : Nat)) d = some (.lst ((r.map wyZ).set j d)) := fun d => by
    have e : ixN (r.map wyZ).length (j : Nat) = some j := by
      unfold ixN
      rw [if_pos (by omega), if_pos (by rw [List.length_map]; omega)]
      rfl
    show (ixN (r.map wyZ).length (j : Nat)).map _ = _
    rw [e]
    rfl
  have d3 : f__law_pick [.own p2.o, .dat (.lst [.int (-1), .int (n : Int), .int ((n : Int) + 1), .int (0 - (n : Int)), .int 1000000000000000000000000000000])] = .ok (.dat (.int z)) [.own (some 0) p3.o, .dat (.lst [.int (-1), .int (n : Int), .int ((n : Int) + 1), .int (0 - (n : Int)), .int 1000000000000000000000000000000])] := d3
  have ng : gNeg (.int 1) = some (.dat (.int (-1))) := rfl
  have lw : wyZ (z, w.2) = .tup [.int z, .lst (w.2.map tD)] := rfl
  rw [lw] at hS
  unfold e03
  rw [← en] at d1
  have eb : bs.length = n := by omega
  simp_all! only [↓turnF_ap, kF1_ap, ↓turnC_ap, ↓kC1_ap, ↓kC2_ap, ↓kC3_ap, ↓turnN_ap, ↓kN1_ap, ↓kN2_ap, ↓kN3_ap, ↓bodyN_nil, ↓bodyN_cons, ↓kBN_ap, ↓kBC_ap, ↓bodyD_ap, ↓kBD1_ap, ↓kBD2_ap, goes_nx, goes_ct, tc_if, tn_if, fc_Machine_signs, fp_Machine_signs, fg_Machine_signs_0, fg_Machine_signs_1, fg_Machine_signs_2, fg_Machine_signs_3, fc_Machine_rows, fp_Machine_rows, fg_Machine_rows_1, fg_Machine_rows_2, fg_Machine_rows_3, fc_Machine_ends, fp_Machine_ends, fg_Machine_ends_2, fg_Machine_ends_3, fc_Machine_all_keys, fp_Machine_all_keys, fg_Machine_all_keys_3, fm_Machine_after, fm_Machine_far_keys, fm_Machine_keys_of, fm_Machine_read, ↓strC_ap, ↓kStrC_ap, strO_str, strO_ex, ↓makeLO_ap, ↓kML_ap, ↓cmO_ap, ↓clsA_ap, ↓kCls_ap, ↓starS_ap, ↓kStarS_ap, ↓enIK_ap, ↓kEnIK_ap, ↓compM_ap, ↓kCompM_ap, ↓kCompM2_ap, ↓putB_ap, ↓kPutB1_ap, ↓kPutB2_ap, ↓kPutB3_ap, ↓rowB_ap, ↓regP_ap, ↓kRegP1_ap, ↓regS_ap, ↓b_law_v47_1, eb, d1, d2, ng, ob, ↓kr, get14, set14, hG, d3, q2, gp, hS, len_S, S_length]
theorem TzOk.bent {words : List Tx} {rows : RwZ} {ends : List (List Tx)} {s j : Nat} {r : List WayZ} {w : WayZ} {z : Int} (h : TzOk words rows ends) (hr : rows[s]? = some r) (hw : r[j]? = some w) : TzOk words (rows.set s (r.set j (z, w.2))) ends := by
  have mr : r ∈ rows := List.mem_of_getElem? hr
  have mw : w ∈ r := List.mem_of_getElem? hw
  refine ⟨fun r' hr' => ?_, by rw [List.length_set]; exact h.nr, h.n0, h.ne, fun r' hr' w' hw' => ?_, h.en⟩
  · rcases List.mem_or_eq_of_mem_set hr' with q | q
    · exact h.row r' q
    · rw [q, List.length_set]
      exact h.row r mr
  · rcases List.mem_or_eq_of_mem_set hr' with q | q
    · exact h.way r' q w' hw'
    · rw [q] at hw'
      rcases List.mem_or_eq_of_mem_set hw' with q2 | q2
      · exact h.way r mr w' q2
      · rw [q2]
        exact h.way r mr w mw
theorem bent_loop (words : List Tx) (ends : List (List Tx)) (sg : Tx) (n : Nat) (hn : 0 < n) (hn2 : n ≤ 16) (hs : 0 < sg.length) (hs4 : sg.length ≤ 4) : ∀ (xs : List Nat) (k : Nat) (rows : RwZ) (p : Pn), PB p (k + 3 * xs.length) → rows.length = n → (∀ r ∈ rows, r.length = sg.length) → TzOk words rows ends →
    ∃ (rows' : RwZ) (p' : Pn), PB p' k ∧ rows'.length = n ∧ TzOk words rows' ends ∧
      ∀ (scr tu wd tb en : Slot) (K : Nat) (bs : List Addr) (R : Ev), bs.length = n → bs.Nodup → forL (tName 10) (b_law_v47_1 K bs) (xs.map fun i => .int (0 + (i : Nat))) (e03 scr tu (.dat (tD sg)) wd tb p (.own none (.lst (bs.map D.opq))) en (ghL K (rowsL rows) ++ R)) = .nx (e03 scr tu (.dat (tD sg)) wd tb p' (.own none (.lst (bs.map D.opq))) en (ghL K (rowsL rows') ++ R))
  | [], k, rows, p, h, hl, _, ht => ⟨rows, p, h, hl, ht, fun _ _ _ _ _ _ _ _ _ _ => rfl⟩
  | x :: xs, k, rows, p, h, hl, hr, ht => by
    rw [List.length_cons] at h
    obtain ⟨rows1, p1, b1, ⟨s, j, r, w, z, q1, q2, e⟩, t1⟩ := bent_turn sg (k + 3 * xs.length) rows p (h.mono (by omega)) (by omega) (by omega) hr hs hs4
    have hr1 : ∀ r ∈ rows1, r.length = sg.length := fun r' hr' => by
      rw [e] at hr'
      rcases List.mem_or_eq_of_mem_set hr' with q | q
      · exact hr r' q
      · rw [q, List.length_set]
        exact hr r (List.mem_of_getElem? q1)
    have hl1 : rows1.length = n := by rw [e, List.length_set]; exact hl
    obtain ⟨rows2, p2, b2, hl2, ht2, t2⟩ := bent_loop words ends sg n hn hn2 hs hs4 xs k rows1 p1 b1 hl1 hr1 (by rw [e]; exact ht.bent q1 q2)
    refine ⟨rows2, p2, b2, hl2, ht2, fun scr tu wd tb en K bs R hb nd => ?_⟩
    rw [List.map_cons, forL_go (t1 scr tu wd tb en x K bs R (by omega) nd)]
    exact t2 scr tu wd tb en K bs R hb nd
end Nv
-- S_dict
-- classes: Table
namespace Nv
open PySem PySem.Spec PyProof.Rows L2
section
variable {ν : Type} {vd : ν → D} {l : List (Tx × ν)} {k : Tx} {v : ν}
end
section
variable {κ ν : Type} [DecidableEq κ] {l : List (κ × ν)} {k : κ} {v : ν}
theorem alook_mem (h : alook l k = some v) : (k, v) ∈ l := by
  induction l with
  | nil => cases h
  | cons p l ih =>
    rw [alook] at h
    split at h
    · rename_i e; cases h; subst e; exact List.mem_cons_self
    · exact List.mem_cons_of_mem _ (ih h)
theorem alook_some (h : k ∈ l.map (·.1)) : ∃ v, alook l k = some v := by
  induction l with
  | nil => cases h
  | cons p l ih =>
    rw [alook]
    by_cases e : p.1 = k
    · exact ⟨_, if_pos e⟩
    · rw [if_neg e]
      rw [List.map_cons, List.mem_cons] at h
      rcases h with h | h
      · exact absurd h.symm e
      · exact ih h
end
end Nv
-- S_key
-- classes: Table
namespace Nv
open PySem PySem.Spec PyProof.Rows L2
section
variable {α : Type} {f : α → D} {n : Nat} {l : List α}
end
def alnum : Tx := letters ++ [48, 49, 50, 51, 52, 53, 54, 55, 56, 57]
def keyB (w : Tx) : Bool := decide (1 ≤ w.length) && decide (w.length ≤ 12) && w.all fun c => decide (c ∈ alnum)
end Nv
-- S_k40a
namespace Nv
open PySem PySem.Spec PyProof.Rows L2
structure Rw where
  u : Tx
  v : Tx
  w : Int
inductive Col where
  | sg (c : Nat) | ix (k : Nat)
structure Sp1 where
  col : Col
  to : Pl
  w : Int
def hit (x : Tx) (i : Nat) (u : Tx) : Prop := (x.drop i).take u.length = u
instance {x : Tx} {i : Nat} {u : Tx} : Decidable (hit x i u) := by unfold hit; infer_instance
def rowAt (x y : Tx) (i j : Nat) (p : Rw × Nat) : List Sp1 := if hit x i p.1.u ∧ hit y j p.1.v then [⟨.ix p.2, (i + p.1.u.length, j + p.1.v.length), p.1.w⟩] else []
def rowsF (rows : List Rw) (x y : Tx) (i j : Nat) : List Sp1 := rows.zipIdx.flatMap (rowAt x y i j)
def diag (x y : Tx) (i j : Nat) : List Sp1 := if i < x.length ∧ x[i]? = y[j]? then [⟨.sg (x.getD i 0), (i + 1, j + 1), 0⟩] else []
def stepsF (rows : List Rw) (x y : Tx) (i j : Nat) : List Sp1 := diag x y i j ++ rowsF rows x y i j
end Nv
-- S_k40b
namespace Nv
open PySem PySem.Spec PyProof.Rows L2
end Nv
-- S_k40c
namespace Nv
open PySem PySem.Spec PyProof.Rows L2
abbrev Wt := List (Pl × Int)
abbrev Lk := List (Pl × (Pl × Col))
def better (W : Wt) (q : Pl) (n : Int) : Bool := match alook W q with
  | none => true
  | some o => decide (n < o)
def relax (h : Int) (p : Pl) (st : Wt × Lk) (s : Sp1) : Wt × Lk := if better st.1 s.to (h + s.w) = true then (aput st.1 s.to (h + s.w), aput st.2 s.to (p, s.col)) else st
def place (rows : List Rw) (x y : Tx) (st : Wt × Lk) (p : Pl) : Wt × Lk := match alook st.1 p with
  | none => st
  | some h => (stepsF rows x y p.1 p.2).foldl (relax h p) st
end Nv
-- S_k40d
namespace Nv
open PySem PySem.Spec PyProof.Rows L2
end Nv
-- S_tab
-- classes: Table
namespace Nv
open PySem PySem.Spec PyProof.Rows L2
abbrev Nm := List (Tx × Tx)
structure NmOk (sg : Tx) (named : Nm) : Prop where
  nd : (named.map (·.1)).Nodup
  n : named.length ≤ 24
  key : ∀ p ∈ named, keyB p.1 = true
  len : ∀ p ∈ named, p.2.length ≤ 30
  sg : ∀ p ∈ named, ∀ c ∈ p.2, c ∈ sg
theorem NmOk.get {sg : Tx} {named : Nm} (h : NmOk sg named) {k : Tx} (hk : k ∈ sortT (named.map (·.1))) : ∃ v, alook named k = some v ∧ keyB k = true ∧ k.length ≤ 12 ∧ v.length ≤ 30 ∧ ∀ c ∈ v, c ∈ sg := by
  have hk : k ∈ named.map (·.1) := (sortT_perm _).mem_iff.mp hk
  obtain ⟨v, e⟩ := alook_some hk
  have m := alook_mem e
  have kb := h.key _ m
  refine ⟨v, e, kb, ?_, h.len _ m, h.sg _ m⟩
  unfold keyB at kb
  rw [Bool.and_eq_true, Bool.and_eq_true] at kb
  exact of_decide_eq_true kb.1.2
end Nv
-- S_k40e
namespace Nv
open PySem PySem.Spec PyProof.Rows L2
/-- the way back from p is right; all it leads over is done -/
structure WayP (rows : List Rw) (x y : Tx) (st : Wt × Lk) (p : Pl) (v : Int) (t : Nat) (q : Pl) (s : Sp1) (vq : Int) : Prop where
  lk : alook st.2 p = some (q, s.col)
  mem : s ∈ stepsF rows x y q.1 q.2
  to : s.to = p
  wq : alook st.1 q = some vq
  v : v = vq + s.w
  le : q.1 + q.2 ≤ t
structure Inv1 (rows : List Rw) (x y : Tx) (st : Wt × Lk) (t : Nat) : Prop where
  way : ∀ p v, alook st.1 p = some v → (p = (0, 0) ∧ v = 0) ∨ ∃ q s vq, WayP rows x y st p v t q s vq
  zero : alook st.1 (0, 0) = some 0
  nn : ∀ p v, alook st.1 p = some v → 0 ≤ v
section
variable {rows : List Rw} {x y : Tx}
theorem Inv1.mono {st : Wt × Lk} {t t' : Nat} (I : Inv1 rows x y st t) (h : t ≤ t') : Inv1 rows x y st t' :=
  ⟨fun p v hp => (I.way p v hp).imp id fun ⟨q, s, vq, W⟩ => ⟨q, s, vq, W.lk, W.mem, W.to, W.wq, W.v, Nat.le_trans W.le h⟩, I.zero, I.nn⟩
end
end Nv
-- S_k40f
namespace Nv
open PySem PySem.Spec PyProof.Rows L2
end Nv
-- S_k40g
namespace Nv
open PySem PySem.Spec PyProof.Rows L2
end Nv
-- S_k40h
namespace Nv
open PySem PySem.Spec PyProof.Rows L2
end Nv
-- S_k40i
namespace Nv
open PySem PySem.Spec PyProof.Rows L2
end Nv
-- S_k40j
namespace Nv
open PySem PySem.Spec PyProof.Rows L2
end Nv
-- S_k40k
namespace Nv
open PySem PySem.Spec PyProof.Rows L2
end Nv
-- S_k40l
namespace Nv
open PySem PySem.Spec PyProof.Rows L2
end Nv
-- S_k40m
namespace Nv
open PySem PySem.Spec PyProof.Rows L2
end Nv
-- S_k40n
namespace Nv
open PySem PySem.Spec PyProof.Rows L2
end Nv
-- S_k40o
namespace Nv
open PySem PySem.Spec PyProof.Rows L2
end Nv
-- S_k40p
namespace Nv
open PySem PySem.Spec PyProof.Rows L2
end Nv
-- S_k40q
namespace Nv
open PySem PySem.Spec PyProof.Rows L2
end Nv
-- S_w
namespace Nv
open PySem PySem.Spec PyProof.Rows L2
/-- columns tell two texts at a weight -/
inductive Tl (rows : List Rw) : Tx → Tx → Int → Prop where
  | nil : Tl rows [] [] 0
  | sg (c : Nat) {x y : Tx} {v : Int} : Tl rows x y v → Tl rows (c :: x) (c :: y) v
  | row (r : Rw) {x y : Tx} {v : Int} : r ∈ rows → Tl rows x y v → Tl rows (r.u ++ x) (r.v ++ y) (v + r.w)
section
variable {rows : List Rw} {x y : Tx}
end
theorem Tl.sub {rows rows' : List Rw} (h : ∀ r ∈ rows, r ∈ rows') {x y : Tx} {v : Int} (t : Tl rows x y v) : Tl rows' x y v := by
  induction t with
  | nil => exact .nil
  | sg c _ ih => exact .sg c ih
  | row r hr _ ih => exact .row r (h r hr) ih
def swR (r : Rw) : Rw := ⟨r.v, r.u, r.w⟩
theorem Tl.swap {rows : List Rw} {x y : Tx} {v : Int} (t : Tl rows x y v) : Tl (rows.map swR) y x v := by
  induction t with
  | nil => exact .nil
  | sg c _ ih => exact .sg c ih
  | row r hr _ ih => exact .row (swR r) (List.mem_map_of_mem hr) ih
theorem Tl.same {rows : List Rw} : ∀ x : Tx, Tl rows x x 0
  | [] => .nil
  | c :: x => .sg c (Tl.same x)
end Nv
-- S_near
-- classes: Table Edits
namespace Nv
open PySem PySem.Spec PyProof.Rows L2
section
variable {α : Type} {f : α → D} {n : Nat} {a b : List α}
end
end Nv
-- S_near2
-- classes: Table Edits
namespace Nv
open PySem PySem.Spec PyProof.Rows L2
end Nv
-- S_near3
-- classes: Table Edits
namespace Nv
open PySem PySem.Spec PyProof.Rows L2
open PySem.W (dataLe alike sort_maps)
end Nv
-- S_near4
-- classes: Table Edits
-- classes: Table Edits
namespace Nv
open PySem PySem.Spec PyProof.Rows L2
open PySem.W (dataLe alike alikeAll sort_maps keyToks)
end Nv
-- S_named
-- classes: Table Edits
namespace Nv
open PySem PySem.Spec PyProof.Rows L2
end Nv
-- S_named2
-- classes: Table Edits
namespace Nv
open PySem PySem.Spec PyProof.Rows L2
end Nv
-- S_rows
namespace Nv
open PySem PySem.Spec PyProof.Rows L2
end Nv
-- S_45a
-- classes: Machine Rule
namespace Nv
open PySem PySem.Spec PyProof.Rows L2
section
variable {sg : Tx} {rows : List (List Way)} {ends : List (List Tx)} {words : List Tx}
end
section
variable {sg : Tx} {rows : List (List Way)} {ends : List (List Tx)}
end
/-- a machine's tables -/
abbrev Mt := List (List Way) × List (List Tx)
end Nv
-- S_45b
-- classes: Table Edits
-- n64
namespace Nv
open PySem PySem.Spec PyProof.Rows L2
section
variable {sg : Tx} {words : List Tx} {L R : Mt} {named : Nm} {rows : List Rw}
end
section
variable {ν : Type} {vd : ν → D} {l : List ((Tx × Tx) × ν)} {p : Tx × Tx} {v : ν}
end
section
variable {sg : Tx} {words : List Tx} {L R : Mt} {named : Nm} {rows : List Rw}
end
end Nv
-- S_fold2
-- classes: Machine
namespace Nv
open PySem PySem.Spec PyProof.Rows L2
section
variable {inner sg : Tx} {rows : List (List Way)} {ends : List (List Tx)} {words : List Tx}
end
end Nv
-- S_lt1
namespace Nv
open PySem PySem.Spec PyProof.Rows L2
end Nv
-- S_lt2
namespace Nv
open PySem PySem.Spec PyProof.Rows L2
end Nv
-- S_k9a
-- classes: Machine
namespace Nv
open PySem PySem.Spec PyProof.Rows L2
end Nv
-- S_45c
-- classes: Table Edits
-- n64
namespace Nv
open PySem PySem.Spec PyProof.Rows L2
section
variable {sg : Tx} {words : List Tx} {L R : Mt} {named : Nm} {rows : List Rw}
end
end Nv
-- S_45d
-- classes: Table Edits
-- n64
namespace Nv
open PySem PySem.Spec PyProof.Rows L2
section
variable {sg : Tx} {words : List Tx} {L R : Mt} {named : Nm} {rows : List Rw}
end
end Nv
-- S_45e
-- classes: Table Edits Machine Rule
-- n64
namespace Nv
open PySem PySem.Spec PyProof.Rows L2
/-- of bounded depth -/
def Sh (n : Nat) (d : D) : Prop := ∃ m, d.eqd = some m ∧ m ≤ n
theorem Sh.mono {d : D} {n m : Nat} (h : Sh n d) (l : n ≤ m) : Sh m d := by
  obtain ⟨x, e, hx⟩ := h
  exact ⟨x, e, by omega⟩
theorem Sh.eqs {d : D} {n : Nat} (h : Sh n d) (hn : n ≤ 60) : d.eqs = true := by
  obtain ⟨x, e, hx⟩ := h
  unfold D.eqs
  rw [e]
  exact decide_eq_true (by omega)
end Nv
-- S_10a
-- classes: Table Edits Machine Rule
-- n64
namespace Nv
open PySem PySem.Spec PyProof.Rows L2
section
variable {sg : Tx} {words ws2 : List Tx} {m : Mt} {φ : List Tx → List Tx} {R : Tx → Tx → Prop}
end
end Nv
-- S_10b
-- classes: Table Edits Machine Rule
-- n55
-- n64
namespace Nv
open PySem PySem.Spec PyProof.Rows L2
mutual
theorem plain_of : ∀ {d : D} {n : Nat}, d.eqd = some n → d.py.plain = true
  | .non, _, _ => rfl
  | .bl _, _, _ => rfl
  | .int _, _, _ => rfl
  | .str _, _, _ => rfl
  | .tup l, n, h => by
    unfold D.eqd at h
    cases q : D.eqds l with
    | none => rw [q] at h; cases h
    | some m => unfold D.py PyData.plain; exact plains_of q
  | .lst l, n, h => by
    unfold D.eqd at h
    cases q : D.eqds l with
    | none => rw [q] at h; cases h
    | some m => unfold D.py PyData.plain; exact plains_of q
  | .fz _, _, h => nomatch h
  | .dct _, _, h => nomatch h
  | .dtt _, _, h => nomatch h
  | .ins _ _, _, h => nomatch h
  | .ty _, _, h => nomatch h
  | .cls _, _, h => nomatch h
  | .exn _ _, _, h => nomatch h
theorem plains_of : ∀ {l : List D} {n : Nat}, D.eqds l = some n → PyData.plainAll (D.pys l) = true
  | [], _, _ => rfl
  | d :: l, n, h => by
    unfold D.eqds at h
    cases q1 : d.eqd with
    | none => rw [q1] at h; cases h
    | some a =>
      cases q2 : D.eqds l with
      | none => rw [q1, q2] at h; cases h
      | some b =>
        unfold D.pys PyData.plainAll
        rw [plain_of q1, plains_of q2]
        rfl
end
theorem gEq_refl {d : D} {n : Nat} (h : d.eqd = some n) (hn : n ≤ 64) : gEq d d = some (.dat (.bl true)) := by
  have e1 : d.eqs = true := by
    unfold D.eqs
    rw [h]
    exact decide_eq_true hn
  have e2 : d.eq d = true := SeqAt.eqv_refl_plain _ (plain_of h)
  unfold gEq
  rw [e1, e2]
  rfl
section
variable {sg : Tx} {m : Mt}
end
end Nv
-- S_3e
-- classes: Machine
-- n84
-- n97
namespace Nv
open PySem PySem.Spec PyProof.Rows L2
theorem gNe_slf {d : D} {n : Nat} (h : d.eqd = some n) (hn : n ≤ 64) : gNe d d = some (.dat (.bl false)) := by
  have q := gEq_refl h hn
  unfold gEq at q
  unfold gNe
  split at q
  · rename_i c
    rw [if_pos c]
    have q : some (AV.dat (.bl (d.eq d))) = some (AV.dat (.bl true)) := q
    have : d.eq d = true := by injection q with q; injection q with q; injection q
    rw [this]
    rfl
  · cases q
theorem resZ_ne (rows : RwZ) (ends : List (List Tx)) : gNe (resZ rows ends) (resZ rows ends) = some (.dat (.bl false)) := by
  unfold resZ
  split
  · exact gNe_slf (n := 1) rfl (by omega)
  · split
    · exact gNe_slf (n := 0) rfl (by omega)
    · exact gNe_slf (n := 1) rfl (by omega)
noncomputable def s31 (K : Nat) (bs : List Addr) : Ev → Out := (ifS (tstE (op2 gEq (datB (frzE (callO 2 f__law_draw (consA (slotB 1) (consA (datB (cst (.int 2))) nilA))))) (datB (cst (.int 0)))))
    (putS 8 (datB (frzE (callO 2 f__law_draw (consA (slotB 1) (consA (datB (frzE (opA (gA1 gLen) (consA (slotB 8) nilA)))) nilA))))) (frzE (sliceO (slotB 4) noPart (partO (callO 2 f__law_pick (consA (slotB 1) (consA (datB (frzE (lstE (consA (datB (cst (.int 11))) (consA (datB (cst (.int 12))) (consA (datB (cst (.int 13))) nilA)))))) nilA)))))))
    nilS)
noncomputable def s32 (K : Nat) (bs : List Addr) : Ev → Out := (forS (tName 10) (bare (rngI1 (consA (datB (frzE (callO 2 f__law_draw (consA (slotB 1) (consA (datB (cst (.int 4))) nilA))))) nilA)))
    (b_law_v47_1 K bs))
noncomputable def s33 (K : Nat) (bs : List Addr) : Ev → Out := (ifS (tstE (op2 gNe (datB (frzE (callO 2 f__law_told_v7 (consA (datB (nameE 3)) (consA (datB (frzE (tupE (consA (datB (matN 7 14 K bs)) (consA (datB (nameE 8)) nilA))))) nilA))))) (datB (frzE (callO 1 f__law_due_v9 (consA (datB (frzE (tupE (consA (datB (matN 7 14 K bs)) (consA (datB (nameE 8)) nilA))))) nilA))))))
    (retS (datO (cst (.bl false))))
    nilS)
noncomputable def s3r (K : Nat) (bs : List Addr) : Ev → Out := (ifS (tstE (op2 gNe (datB (frzE (callO 2 f__law_told_v7 (consA (datB (nameE 3)) (consA (datB (nameE 6)) nilA))))) (datB (frzE (callO 1 f__law_due_v9 (consA (datB (nameE 6)) nilA))))))
    (retS (datO (cst (.bl false))))
    nilS)
theorem s3_eq (K : Nat) (bs : List Addr) : r_law_v47_1 K bs = (seqS (s31 K bs) (seqS (s32 K bs) (seqS (s33 K bs) (s3r K bs)))) := rfl
noncomputable def s41 : Ev → Out := (par2 3 4 (callO 2 f__law_signs (consA (slotB 1) (consA (datB (frzE (op2 gAdd (datB (cst (.int 1))) (datB (frzE (callO 2 f__law_draw (consA (slotB 1) (consA (datB (cst (.int 4))) nilA)))))))) nilA))) (compO [5] (rngI1 (consA (datB (cst (.int 13))) nilA)) (tName 5) yesT q_law_v47_1))
noncomputable def s42 : Ev → Out := (setS 6 (callO 4 f__law_tables (consA (slotB 1) (consA (datB (nameE 3)) (consA (datB (cst (.int 16))) (consA (datB (frzE (sliceO (slotB 4) noPart (partO (callO 2 f__law_pick (consA (slotB 1) (consA (datB (frzE (lstE (consA (datB (cst (.int 3))) (consA (datB (cst (.int 12))) (consA (datB (cst (.int 13))) nilA)))))) nilA))))))) nilA))))))
noncomputable def s4r : Ev → Out := (regP 7 8 14 30 16 (compM [9] (seqI (datB (frzE (op2 gIx (slotB 6) (datB (cst (.int 0))))))) (tName 9) yesT q_law_v47_2) (opA (gA1 gList) (consA (datB (frzE (op2 gIx (slotB 6) (datB (cst (.int 1)))))) nilA)) r_law_v47_1)
theorem s4_eq : b_law_v47_2 = (fgS [2, 3, 4, 6, 7, 8] (seqS s41 (seqS s42 s4r))) := rfl
theorem numk : ∀ i : Nat, i < 14 → (TL.numL i).length ≤ 2 := by decide +kernel
def wK (n : Nat) : List Tx := (List.range n).map fun i => 107 :: TL.numL i
theorem wK_n (n : Nat) : (wK n).length = n := by unfold wK; rw [List.length_map, List.length_range]
section
variable {scr tu sgd tb : D} {sg : Tx} {rows : RwZ} {ends : List (List Tx)}
def enO (ends : List (List Tx)) : Slot := .own none (.lst (ends.map (enI' false)))
def wdO : Slot := .own none (.lst ((wK 13).map tD))
theorem st31 (k : Nat) (p : Pn) (h : PB p (k + 3)) (ht : TzOk (wK 13) rows ends) :
    ∃ ends' p', PB p' k ∧ TzOk (wK 13) rows ends' ∧ ∀ (scr tu sgd tb mat : Slot) (G : Ev) (K : Nat) (bs : List Addr), s31 K bs (e03 scr tu sgd wdO tb p mat (enO ends) G) = .nx (e03 scr tu sgd wdO tb p' mat (enO ends') G) := by
  obtain ⟨c, p1, d1, l1, b1⟩ := dr p 2 (k + 2) (by omega) (by omega) (h.mono (by omega)) 2 rfl
  by_cases hc : c = 0
  · obtain ⟨z, p2, mz, d2, b2⟩ := pick_int [11, 12, 13] (fun z => nomatch z) (by decide) p1 (k + 1) (b1.mono (by omega))
    obtain ⟨v, ev, hv⟩ : ∃ v : Nat, z = (v : Int) ∧ v ≤ 13 := by
      simp only [List.mem_cons, List.not_mem_nil, or_false] at mz
      exact ⟨z.toNat, by omega, by omega⟩
    have hp : 0 < ends.length := List.length_pos_iff.mpr ht.n0
    have hne := ht.ne
    obtain ⟨i, p3, d3, l3, b3⟩ := dr p2 ends.length k hp (by omega) b2 _ rfl
    refine ⟨ends.set i ((wK 13).take v), p3, b3, ?_, fun scr tu sgd tb mat G K bs => ?_⟩
    · refine ⟨ht.row, ht.nr, fun z => ?_, by rw [List.length_set]; exact ht.ne, ht.way, fun e he => ?_⟩
      · have := congrArg List.length z
        rw [List.length_set] at this
        have e0 : ([] : List (List Tx)).length = 0 := rfl
        omega
      · rcases List.mem_or_eq_of_mem_set he with q | q
        · exact ht.en e q
        · rw [q]
          exact ⟨by rw [List.length_take, wK_n]; omega, fun x hx => List.mem_of_mem_take hx⟩
    · subst ev
      have d2 : f__law_pick [.own p1.o, .dat (.lst [.int 11, .int 12, .int 13])] = .ok (.dat (.int (v : Nat))) [.own (some 0) p2.o, .dat (.lst [.int 11, .int 12, .int 13])] := d2
      have gp : ∀ d : D, gPut (.lst (ends.map (enI' false))) (.int (i : Nat)) d = some (.lst ((ends.map (enI' false)).set i d)) := fun d => by
        have e : ixN (ends.map (enI' false)).length (i : Nat) = some i := by
          unfold ixN
          rw [if_pos (by omega), if_pos (by rw [List.length_map]; omega)]
          rfl
        show (ixN (ends.map (enI' false)).length (i : Nat)).map _ = _
        rw [e]
        rfl
      have e1 : (ends.set i ((wK 13).take v)).map (enI' false) = (ends.map (enI' false)).set i (.lst (((wK 13).map tD).take v)) := by
        rw [List.map_set, ← List.map_take]
        rfl
      unfold e03 enO wdO
      rw [e1]
      unfold s31
      simp_all! only [↓turnF_ap, kF1_ap, ↓turnC_ap, ↓kC1_ap, ↓kC2_ap, ↓kC3_ap, ↓turnN_ap, ↓kN1_ap, ↓kN2_ap, ↓kN3_ap, ↓bodyN_nil, ↓bodyN_cons, ↓kBN_ap, ↓kBC_ap, ↓bodyD_ap, ↓kBD1_ap, ↓kBD2_ap, goes_nx, goes_ct, tc_if, tn_if, fc_Machine_signs, fp_Machine_signs, fg_Machine_signs_0, fg_Machine_signs_1, fg_Machine_signs_2, fg_Machine_signs_3, fc_Machine_rows, fp_Machine_rows, fg_Machine_rows_1, fg_Machine_rows_2, fg_Machine_rows_3, fc_Machine_ends, fp_Machine_ends, fg_Machine_ends_2, fg_Machine_ends_3, fc_Machine_all_keys, fp_Machine_all_keys, fg_Machine_all_keys_3, fm_Machine_after, fm_Machine_far_keys, fm_Machine_keys_of, fm_Machine_read, ↓strC_ap, ↓kStrC_ap, strO_str, strO_ex, ↓makeLO_ap, ↓kML_ap, ↓cmO_ap, ↓clsA_ap, ↓kCls_ap, ↓starS_ap, ↓kStarS_ap, ↓enIK_ap, ↓kEnIK_ap, ↓compM_ap, ↓kCompM_ap, ↓kCompM2_ap, ↓putB_ap, ↓kPutB1_ap, ↓kPutB2_ap, ↓kPutB3_ap, ↓rowB_ap, ↓regP_ap, ↓kRegP1_ap, ↓regS_ap, d1, hc, d2, d3, gp]
  · refine ⟨ends, p1, b1.mono (by omega), ht, fun scr tu sgd tb mat G K bs => ?_⟩
    unfold e03 enO wdO
    unfold s31
    simp_all! only [↓turnF_ap, kF1_ap, ↓turnC_ap, ↓kC1_ap, ↓kC2_ap, ↓kC3_ap, ↓turnN_ap, ↓kN1_ap, ↓kN2_ap, ↓kN3_ap, ↓bodyN_nil, ↓bodyN_cons, ↓kBN_ap, ↓kBC_ap, ↓bodyD_ap, ↓kBD1_ap, ↓kBD2_ap, goes_nx, goes_ct, tc_if, tn_if, fc_Machine_signs, fp_Machine_signs, fg_Machine_signs_0, fg_Machine_signs_1, fg_Machine_signs_2, fg_Machine_signs_3, fc_Machine_rows, fp_Machine_rows, fg_Machine_rows_1, fg_Machine_rows_2, fg_Machine_rows_3, fc_Machine_ends, fp_Machine_ends, fg_Machine_ends_2, fg_Machine_ends_3, fc_Machine_all_keys, fp_Machine_all_keys, fg_Machine_all_keys_3, fm_Machine_after, fm_Machine_far_keys, fm_Machine_keys_of, fm_Machine_read, ↓strC_ap, ↓kStrC_ap, strO_str, strO_ex, ↓makeLO_ap, ↓kML_ap, ↓cmO_ap, ↓clsA_ap, ↓kCls_ap, ↓starS_ap, ↓kStarS_ap, ↓enIK_ap, ↓kEnIK_ap, ↓compM_ap, ↓kCompM_ap, ↓kCompM2_ap, ↓putB_ap, ↓kPutB1_ap, ↓kPutB2_ap, ↓kPutB3_ap, ↓rowB_ap, ↓regP_ap, ↓kRegP1_ap, ↓regS_ap, d1, hc]
end
end Nv
-- S_3f
-- classes: Machine
-- n84
-- n97
namespace Nv
open PySem PySem.Spec PyProof.Rows L2
theorem rowsL_lst (rows : RwZ) : D.lst ((rowsL rows).map D.lst) = rwsZ rows := by
  unfold rowsL rwsZ
  rw [List.map_map]
  rfl
theorem st32 (sg : Tx) (k : Nat) (rows : RwZ) (ends : List (List Tx)) (p : Pn) (h : PB p (k + 10)) (ht : TzOk (wK 13) rows ends) (hn : 0 < rows.length) (hr : ∀ r ∈ rows, r.length = sg.length) (hs : 0 < sg.length) (hs4 : sg.length ≤ 4) :
    ∃ rows' p', PB p' k ∧ rows'.length = rows.length ∧ TzOk (wK 13) rows' ends ∧
      ∀ (scr tu wd tb en : Slot) (K : Nat) (bs : List Addr) (R : Ev), bs.length = rows.length → bs.Nodup → s32 K bs (e03 scr tu (.dat (tD sg)) wd tb p (.own none (.lst (bs.map D.opq))) en (ghL K (rowsL rows) ++ R)) = .nx (e03 scr tu (.dat (tD sg)) wd tb p' (.own none (.lst (bs.map D.opq))) en (ghL K (rowsL rows') ++ R)) := by
  obtain ⟨c, p1, d1, l1, b1⟩ := dr p 4 (k + 9) (by omega) (by omega) h 4 rfl
  obtain ⟨rows', p2, b2, hl, ht2, lo⟩ := bent_loop (wK 13) ends sg rows.length hn ht.nr hs hs4 (List.range c) k rows p1 (by rw [List.length_range]; exact b1.mono (by omega)) rfl hr ht
  refine ⟨rows', p2, b2, hl, ht2, fun scr tu wd tb en K bs R hb nd => ?_⟩
  have lo := lo scr tu wd tb en K bs R hb nd
  have rg : rngOk ((c : Nat) : Int) = true := rng_t (by omega) (by omega)
  rw [← range_map] at lo
  unfold e03 at lo ⊢
  unfold s32
  simp_all! only [↓turnF_ap, kF1_ap, ↓turnC_ap, ↓kC1_ap, ↓kC2_ap, ↓kC3_ap, ↓turnN_ap, ↓kN1_ap, ↓kN2_ap, ↓kN3_ap, ↓bodyN_nil, ↓bodyN_cons, ↓kBN_ap, ↓kBC_ap, ↓bodyD_ap, ↓kBD1_ap, ↓kBD2_ap, goes_nx, goes_ct, tc_if, tn_if, fc_Machine_signs, fp_Machine_signs, fg_Machine_signs_0, fg_Machine_signs_1, fg_Machine_signs_2, fg_Machine_signs_3, fc_Machine_rows, fp_Machine_rows, fg_Machine_rows_1, fg_Machine_rows_2, fg_Machine_rows_3, fc_Machine_ends, fp_Machine_ends, fg_Machine_ends_2, fg_Machine_ends_3, fc_Machine_all_keys, fp_Machine_all_keys, fg_Machine_all_keys_3, fm_Machine_after, fm_Machine_far_keys, fm_Machine_keys_of, fm_Machine_read, ↓strC_ap, ↓kStrC_ap, strO_str, strO_ex, ↓makeLO_ap, ↓kML_ap, ↓cmO_ap, ↓clsA_ap, ↓kCls_ap, ↓starS_ap, ↓kStarS_ap, ↓enIK_ap, ↓kEnIK_ap, ↓compM_ap, ↓kCompM_ap, ↓kCompM2_ap, ↓putB_ap, ↓kPutB1_ap, ↓kPutB2_ap, ↓kPutB3_ap, ↓rowB_ap, ↓regP_ap, ↓kRegP1_ap, ↓regS_ap, d1, rg, lo]
theorem st33 (sg : Tx) (rows : RwZ) (ends : List (List Tx)) (ht : TzOk (wK 13) rows ends) (scr tu wd tb : Slot) (p : Pn) (K : Nat) (bs : List Addr) (R : Ev) (hb : bs.length = rows.length) :
    s33 K bs (e03 scr tu (.dat (tD sg)) wd tb p (.own none (.lst (bs.map D.opq))) (enO ends) (ghL K (rowsL rows) ++ R)) = .nx (e03 scr tu (.dat (tD sg)) wd tb p (.dat (rwsZ rows)) (.dat (ensI false false ends)) ((rowsL rows).map (fun l => Slot.dat (.lst l)) ++ R)) := by
  have t1 := told3_ok sg ht (by rw [wK_n]; omega)
  have t2 := due3_ok ht (by rw [wK_n]; omega)
  have ne := resZ_ne rows ends
  have hm : matN 7 14 K bs (e03 scr tu (.dat (tD sg)) wd tb p (.own none (.lst (bs.map D.opq))) (enO ends) (ghL K (rowsL rows) ++ R)) = .ok (rwsZ rows) (e03 scr tu (.dat (tD sg)) wd tb p (.dat (rwsZ rows)) (enO ends) ((rowsL rows).map (fun l => Slot.dat (.lst l)) ++ R)) := by
    have q : frzG 14 K (rowsL rows).length (e03 scr tu (.dat (tD sg)) wd tb p (.own none (.lst (bs.map D.opq))) (enO ends) (ghL K (rowsL rows) ++ R)) = _ := frz_app (rowsL rows) K [scr, .own none p.o, tu, .dat (tD sg), wd, .un, tb, .own none (.lst (bs.map D.opq)), enO ends, .un, .un, .un, .un, .un] R
    have e : (rowsL rows).length = bs.length := by unfold rowsL; rw [List.length_map]; omega
    rw [e] at q
    show matF 7 14 K bs _ = _
    unfold matF
    rw [q]
    refine Eq.trans (if_pos (c := bs.map D.opq = bs.map D.opq) rfl) ?_
    rw [rowsL_lst]
    rfl
  have hm2 : ∀ en G, matN 7 14 K bs (e03 scr tu (.dat (tD sg)) wd tb p (.dat (rwsZ rows)) en G) = .ok (rwsZ rows) (e03 scr tu (.dat (tD sg)) wd tb p (.dat (rwsZ rows)) en G) := fun en G => rfl
  have eE : ensI false false ends = .lst (ends.map (enI' false)) := rfl
  rw [eE] at t1 t2 ⊢
  unfold e03 enO at hm
  unfold e03 at hm2
  unfold e03 enO
  unfold s33
  simp_all! only [↓turnF_ap, kF1_ap, ↓turnC_ap, ↓kC1_ap, ↓kC2_ap, ↓kC3_ap, ↓turnN_ap, ↓kN1_ap, ↓kN2_ap, ↓kN3_ap, ↓bodyN_nil, ↓bodyN_cons, ↓kBN_ap, ↓kBC_ap, ↓bodyD_ap, ↓kBD1_ap, ↓kBD2_ap, goes_nx, goes_ct, tc_if, tn_if, fc_Machine_signs, fp_Machine_signs, fg_Machine_signs_0, fg_Machine_signs_1, fg_Machine_signs_2, fg_Machine_signs_3, fc_Machine_rows, fp_Machine_rows, fg_Machine_rows_1, fg_Machine_rows_2, fg_Machine_rows_3, fc_Machine_ends, fp_Machine_ends, fg_Machine_ends_2, fg_Machine_ends_3, fc_Machine_all_keys, fp_Machine_all_keys, fg_Machine_all_keys_3, fm_Machine_after, fm_Machine_far_keys, fm_Machine_keys_of, fm_Machine_read, ↓strC_ap, ↓kStrC_ap, strO_str, strO_ex, ↓makeLO_ap, ↓kML_ap, ↓cmO_ap, ↓clsA_ap, ↓kCls_ap, ↓starS_ap, ↓kStarS_ap, ↓enIK_ap, ↓kEnIK_ap, ↓compM_ap, ↓kCompM_ap, ↓kCompM2_ap, ↓putB_ap, ↓kPutB1_ap, ↓kPutB2_ap, ↓kPutB3_ap, ↓rowB_ap, ↓regP_ap, ↓kRegP1_ap, ↓regS_ap, hm, hm2, t1, t2, ne]
theorem st3r (sg : Tx) (mr : List (List Way)) (me : List (List Tx)) (ht : TzOk (wK 13) (zM mr) me) (scr tu wd : Slot) (p : Pn) (mat en : Slot) (K : Nat) (bs : List Addr) (G : Ev) :
    s3r K bs (e03 scr tu (.dat (tD sg)) wd (.dat (.tup [rwsI false mr, ensI false false me])) p mat en G) = .nx (e03 scr tu (.dat (tD sg)) wd (.dat (.tup [rwsI false mr, ensI false false me])) p mat en G) := by
  have t1 := told3_ok sg ht (by rw [wK_n]; omega)
  have t2 := due3_ok ht (by rw [wK_n]; omega)
  have ne := resZ_ne (zM mr) me
  rw [rws_z] at t1 t2
  unfold e03
  unfold s3r
  simp_all! only [↓turnF_ap, kF1_ap, ↓turnC_ap, ↓kC1_ap, ↓kC2_ap, ↓kC3_ap, ↓turnN_ap, ↓kN1_ap, ↓kN2_ap, ↓kN3_ap, ↓bodyN_nil, ↓bodyN_cons, ↓kBN_ap, ↓kBC_ap, ↓bodyD_ap, ↓kBD1_ap, ↓kBD2_ap, goes_nx, goes_ct, tc_if, tn_if, fc_Machine_signs, fp_Machine_signs, fg_Machine_signs_0, fg_Machine_signs_1, fg_Machine_signs_2, fg_Machine_signs_3, fc_Machine_rows, fp_Machine_rows, fg_Machine_rows_1, fg_Machine_rows_2, fg_Machine_rows_3, fc_Machine_ends, fp_Machine_ends, fg_Machine_ends_2, fg_Machine_ends_3, fc_Machine_all_keys, fp_Machine_all_keys, fg_Machine_all_keys_3, fm_Machine_after, fm_Machine_far_keys, fm_Machine_keys_of, fm_Machine_read, ↓strC_ap, ↓kStrC_ap, strO_str, strO_ex, ↓makeLO_ap, ↓kML_ap, ↓cmO_ap, ↓clsA_ap, ↓kCls_ap, ↓starS_ap, ↓kStarS_ap, ↓enIK_ap, ↓kEnIK_ap, ↓compM_ap, ↓kCompM_ap, ↓kCompM2_ap, ↓putB_ap, ↓kPutB1_ap, ↓kPutB2_ap, ↓kPutB3_ap, ↓rowB_ap, ↓regP_ap, ↓kRegP1_ap, ↓regS_ap, t1, t2, ne]
theorem du_dat (ls : List (List D)) : DU (ls.map fun l => Slot.dat (.lst l)) := fun g hg k o z => by
  obtain ⟨l, _, rfl⟩ := List.mem_map.mp hg
  cases z
theorem du_app {a b : Ev} (ha : DU a) (hb : DU b) : DU (a ++ b) := fun g hg => (List.mem_append.mp hg).elim (ha g) (hb g)
theorem du_drop {a : Ev} {n : Nat} (ha : DU a) : DU (a.drop n) := fun g hg => ha g (List.mem_of_mem_drop hg)
theorem entE_03 {scr tu sgd wd tb ends : Slot} {p : Pn} {G : Ev} {K : Nat} {ls : List (List D)} {bs : List Addr} (hl : ls.length ≤ G.length) :
    entE 7 14 K ls bs (e03 scr tu sgd wd tb p .un ends G) = e03 scr tu sgd wd tb p (.own none (.lst (bs.map D.opq))) ends (ghL K ls ++ G.drop ls.length) := by
  have q : ghG 14 K ls (e03 scr tu sgd wd tb p .un ends G) = _ := ghG_app ls K [scr, .own none p.o, tu, sgd, wd, .un, tb, .un, ends, .un, .un, .un, .un, .un] G hl
  unfold entE
  rw [q]
  rfl
theorem reg03 (scr tu : D) (sg : Tx) (k : Nat) (mr : List (List Way)) (me : List (List Tx)) (p : Pn) (G : Ev) (h : PB p (k + 20)) (ht : TzOk (wK 13) (zM mr) me) (hn : 0 < mr.length) (hr : ∀ r ∈ mr, r.length = sg.length) (hs : 0 < sg.length) (hs4 : sg.length ≤ 4) (hG : G.length = 16) (du : DU G) :
    ∃ p' en G', PB p' k ∧ G'.length = 16 ∧ DU G' ∧ regK 7 14 30 16 r_law_v47_1 (rowsL (zM mr)) (e03 (.dat scr) (.dat tu) (.dat (tD sg)) wdO (.dat (.tup [rwsI false mr, ensI false false me])) p .un (enO me) G) =
      .nx (e03 (.dat scr) (.dat tu) (.dat (tD sg)) wdO (.dat (.tup [rwsI false mr, ensI false false me])) p' .un (.dat en) G') := by
  have lz : (zM mr).length = mr.length := List.length_map ..
  have lr : (rowsL (zM mr)).length = mr.length := by unfold rowsL; rw [List.length_map]; exact lz
  have nr := ht.nr
  obtain ⟨me2, p1, b1, ht1, s1⟩ := st31 (rows := zM mr) (k + 10) p (h.mono (by omega)) ht
  obtain ⟨rows2, p2, b2, hl2, ht2, s2⟩ := st32 sg k (zM mr) me2 p1 (b1.mono (by omega)) ht1 (by omega) (fun r hr' => by
    obtain ⟨r', h1, rfl⟩ := List.mem_map.mp hr'
    rw [List.length_map]
    exact hr r' h1) hs hs4
  have lr2 : (rowsL rows2).length = mr.length := by unfold rowsL; rw [List.length_map]; omega
  refine ⟨p2, ensI false false me2, (rowsL rows2).map (fun l => Slot.dat (.lst l)) ++ G.drop (rowsL (zM mr)).length, b2, ?_, du_app (du_dat _) (du_drop du), regK_is (by omega) (by omega) rfl ?_ fun K bs hK hb nd => ?_⟩
  · rw [List.length_append, List.length_map, List.length_drop, lr, lr2]
    omega
  · show 14 + _ ≤ G.length + 14
    omega
  · rw [entE_03 (by omega), s3_eq, seqS_ap, s1 _ _ _ _ _ _ K bs, Out.seq_nx, seqS_ap, s2 _ _ _ _ _ K bs _ (by omega) nd, Out.seq_nx, seqS_ap, st33 sg rows2 me2 ht2 _ _ _ _ _ K bs _ (by omega), Out.seq_nx, st3r sg mr me ht]
    show Out.nx (clrG K 7 _) = _
    unfold clrG
    congr 1
    have e : (e03 (.dat scr) (.dat tu) (.dat (tD sg)) wdO (.dat (.tup [rwsI false mr, ensI false false me])) p2 (.dat (rwsZ rows2)) (.dat (ensI false false me2)) ((rowsL rows2).map (fun l => Slot.dat (.lst l)) ++ G.drop (rowsL (zM mr)).length)).map (dropK K) =
        e03 (.dat scr) (.dat tu) (.dat (tD sg)) wdO (.dat (.tup [rwsI false mr, ensI false false me])) p2 (.dat (rwsZ rows2)) (.dat (ensI false false me2)) (((rowsL rows2).map (fun l => Slot.dat (.lst l)) ++ G.drop (rowsL (zM mr)).length).map (dropK K)) := rfl
    rw [e, (du_app (du_dat _) (du_drop du)).drop]
    rfl
end Nv
-- S_3g
-- classes: Machine
-- n84
-- n97
namespace Nv
open PySem PySem.Spec PyProof.Rows L2
def h03 (scr : D) (p : Pn) (G : Ev) : Ev := .dat scr :: .own none p.o :: .un :: .un :: .un :: .un :: .un :: .un :: .un :: .un :: .un :: .un :: .un :: .un :: G
theorem words3 (Γ0 : Ev) (scr : D) (p : Pn) (tu : D) (G : Ev) (e0 : Γ0 = .dat scr :: .own none p.o :: .dat tu :: .un :: .un :: .un :: .un :: .un :: .un :: .un :: .un :: .un :: .un :: .un :: G) :
    compL Γ0 (tName 5) yesT q_law_v47_1 (rangeD 0 13) [] Γ0 = some ((wK 13).map tD, Γ0) := by
  subst e0
  rw [range_map, compL_a (fun i : Nat => D.int (0 + (i : Nat))) (fun i => tD (107 :: TL.numL i)) (List.range 13) (fun i hi => by
    have hi := List.mem_range.mp hi
    have nl := numk i (by omega)
    have q : gAdd (.str ("k" : Str)) (tD (TL.numL i)) = some (.dat (tD (107 :: TL.numL i))) := by
      have := ad_S (a := [107]) (b := TL.numL i)
      rw [if_pos (by rw [sl_eq, List.length_singleton]; omega)] at this
      exact this
    simp_all! only [↓turnF_ap, kF1_ap, ↓turnC_ap, ↓kC1_ap, ↓kC2_ap, ↓kC3_ap, ↓turnN_ap, ↓kN1_ap, ↓kN2_ap, ↓kN3_ap, ↓bodyN_nil, ↓bodyN_cons, ↓kBN_ap, ↓kBC_ap, ↓bodyD_ap, ↓kBD1_ap, ↓kBD2_ap, goes_nx, goes_ct, tc_if, tn_if, fc_Machine_signs, fp_Machine_signs, fg_Machine_signs_0, fg_Machine_signs_1, fg_Machine_signs_2, fg_Machine_signs_3, fc_Machine_rows, fp_Machine_rows, fg_Machine_rows_1, fg_Machine_rows_2, fg_Machine_rows_3, fc_Machine_ends, fp_Machine_ends, fg_Machine_ends_2, fg_Machine_ends_3, fc_Machine_all_keys, fp_Machine_all_keys, fg_Machine_all_keys_3, fm_Machine_after, fm_Machine_far_keys, fm_Machine_keys_of, fm_Machine_read, ↓strC_ap, ↓kStrC_ap, strO_str, strO_ex, ↓makeLO_ap, ↓kML_ap, ↓cmO_ap, ↓clsA_ap, ↓kCls_ap, ↓starS_ap, ↓kStarS_ap, ↓enIK_ap, ↓kEnIK_ap, ↓compM_ap, ↓kCompM_ap, ↓kCompM2_ap, ↓putB_ap, ↓kPutB1_ap, ↓kPutB2_ap, ↓kPutB3_ap, ↓rowB_ap, ↓regP_ap, ↓kRegP1_ap, ↓regS_ap, ↓q_law_v47_1, q, anchor_slf]) (by rw [sl_eq, List.length_range]; omega)]
  unfold wK
  rw [List.map_map]
  rfl
theorem tb_tz {sg : Tx} {words : List Tx} {rows : List (List Way)} {ends : List (List Tx)} (h : TbOk sg words 16 rows ends) (hw : ∀ k ∈ words, k ∈ wK 13) (hs : sg.length ≤ 4) : TzOk (wK 13) (zM rows) ends := by
  have lz : (zM rows).length = rows.length := List.length_map ..
  have n0 := h.n0
  have en := h.en
  have n := h.n
  refine ⟨fun r hr => ?_, by omega, fun z => ?_, by omega, fun r hr w hw' => ?_, fun e he => ⟨by have := (h.eks e he).n; omega, fun k hk => hw k ((h.eks e he).sub k hk)⟩⟩
  · obtain ⟨r', h1, rfl⟩ := List.mem_map.mp hr
    rw [List.length_map, h.row r' h1]
    exact hs
  · rw [z] at en
    have : ([] : List (List Tx)).length = 0 := rfl
    omega
  · obtain ⟨r', h1, rfl⟩ := List.mem_map.mp hr
    obtain ⟨w', h2, rfl⟩ := List.mem_map.mp hw'
    have := h.key r' h1 w' h2
    exact ⟨this.n, fun k hk => hw k (this.sub k hk)⟩
theorem lo03_turn (scr : D) (t k : Nat) (p : Pn) (G : Ev) (hG : G.length = 16) (du : DU G) (h : PB p (k + 2000)) :
    ∃ Γ', Goes (turnF (tName 2) b_law_v47_2 (.int (0 + (t : Nat))) (h03 scr p G)) Γ' ∧ ∃ p' G', Γ' = h03 scr p' G' ∧ G'.length = 16 ∧ DU G' ∧ PB p' k := by
  obtain ⟨c4, p1, d1, l1, b1⟩ := dr p 4 (k + 1990) (by omega) (by omega) (h.mono (by omega)) 4 rfl
  obtain ⟨sg, p2, d2, l2, nd, az, b2⟩ := sgn p1 (1 + c4) (k + 1980) (by omega) (b1.mono (by omega)) (1 + (c4 : Nat)) (by omega)
  obtain ⟨z, p3, mz, d3, b3⟩ := pick_int [3, 12, 13] (fun z => nomatch z) (by decide) p2 (k + 1970) (b2.mono (by omega))
  obtain ⟨v, ev, hv0, hv⟩ : ∃ v : Nat, z = (v : Int) ∧ 0 < v ∧ v ≤ 13 := by
    simp only [List.mem_cons, List.not_mem_nil, or_false] at mz
    exact ⟨z.toNat, by omega, by omega, by omega⟩
  subst ev
  have lw := wK_n 13
  have lt : ((wK 13).take v).length = v := by rw [List.length_take]; omega
  obtain ⟨mr, me, p4, htb, to, b4⟩ := tables_ok sg ((wK 13).take v) (fun z => by rw [z] at lt; simp at lt; omega) (by omega) (by omega) 16 (by omega) (by omega) p3 (k + 900) (b3.mono (by omega))
  have tz := tb_tz to (fun k hk => List.mem_of_mem_take hk) (by omega)
  obtain ⟨tu, etu⟩ : ∃ tu, tu = D.int (0 + (t : Nat)) := ⟨_, rfl⟩
  have n0 := to.n0
  have nn := to.n
  have nen := to.en
  obtain ⟨p5, en, G5, b5, lG5, du5, rk⟩ := reg03 scr tu sg k mr me p4 G (b4.mono (by omega)) tz n0 to.row (by omega) (by omega) hG du
  have s1 : s41 (.dat scr :: .own none p.o :: .dat tu :: .un :: .un :: .un :: .un :: .un :: .un :: .un :: .un :: .un :: .un :: .un :: G) = .nx (e03 (.dat scr) (.dat tu) (.dat (tD sg)) wdO .un p2 .un .un G) := by
    have cp := words3 _ scr p2 tu G rfl
    have r13 : rngOk 13 = true := by decide
    have t13 : (13 : Int).toNat = 13 := rfl
    unfold s41 e03 wdO
    simp_all! only [↓turnF_ap, kF1_ap, ↓turnC_ap, ↓kC1_ap, ↓kC2_ap, ↓kC3_ap, ↓turnN_ap, ↓kN1_ap, ↓kN2_ap, ↓kN3_ap, ↓bodyN_nil, ↓bodyN_cons, ↓kBN_ap, ↓kBC_ap, ↓bodyD_ap, ↓kBD1_ap, ↓kBD2_ap, goes_nx, goes_ct, tc_if, tn_if, fc_Machine_signs, fp_Machine_signs, fg_Machine_signs_0, fg_Machine_signs_1, fg_Machine_signs_2, fg_Machine_signs_3, fc_Machine_rows, fp_Machine_rows, fg_Machine_rows_1, fg_Machine_rows_2, fg_Machine_rows_3, fc_Machine_ends, fp_Machine_ends, fg_Machine_ends_2, fg_Machine_ends_3, fc_Machine_all_keys, fp_Machine_all_keys, fg_Machine_all_keys_3, fm_Machine_after, fm_Machine_far_keys, fm_Machine_keys_of, fm_Machine_read, ↓strC_ap, ↓kStrC_ap, strO_str, strO_ex, ↓makeLO_ap, ↓kML_ap, ↓cmO_ap, ↓clsA_ap, ↓kCls_ap, ↓starS_ap, ↓kStarS_ap, ↓enIK_ap, ↓kEnIK_ap, ↓compM_ap, ↓kCompM_ap, ↓kCompM2_ap, ↓putB_ap, ↓kPutB1_ap, ↓kPutB2_ap, ↓kPutB3_ap, ↓rowB_ap, ↓regP_ap, ↓kRegP1_ap, ↓regS_ap, d1, d2, r13, t13, cp]
  rw [List.map_take] at htb
  have s2 : s42 (e03 (.dat scr) (.dat tu) (.dat (tD sg)) wdO .un p2 .un .un G) = .nx (e03 (.dat scr) (.dat tu) (.dat (tD sg)) wdO (.dat (.tup [rwsI false mr, ensI false false me])) p4 .un .un G) := by
    have d3 : f__law_pick [.own p2.o, .dat (.lst [.int 3, .int 12, .int 13])] = .ok (.dat (.int (v : Nat))) [.own (some 0) p3.o, .dat (.lst [.int 3, .int 12, .int 13])] := d3
    have htb : f__law_tables [.own p3.o, .dat (tD sg), .dat (.int 16), .dat (.lst (((wK 13).map tD).take v))] = .ok (.dat (.tup [rwsI false mr, ensI false false me])) [.own (some 0) p4.o, .dat (tD sg), .dat (.int 16), .dat (.lst (((wK 13).map tD).take v))] := htb
    unfold s42 e03 wdO
    simp_all! only [↓turnF_ap, kF1_ap, ↓turnC_ap, ↓kC1_ap, ↓kC2_ap, ↓kC3_ap, ↓turnN_ap, ↓kN1_ap, ↓kN2_ap, ↓kN3_ap, ↓bodyN_nil, ↓bodyN_cons, ↓kBN_ap, ↓kBC_ap, ↓bodyD_ap, ↓kBD1_ap, ↓kBD2_ap, goes_nx, goes_ct, tc_if, tn_if, fc_Machine_signs, fp_Machine_signs, fg_Machine_signs_0, fg_Machine_signs_1, fg_Machine_signs_2, fg_Machine_signs_3, fc_Machine_rows, fp_Machine_rows, fg_Machine_rows_1, fg_Machine_rows_2, fg_Machine_rows_3, fc_Machine_ends, fp_Machine_ends, fg_Machine_ends_2, fg_Machine_ends_3, fc_Machine_all_keys, fp_Machine_all_keys, fg_Machine_all_keys_3, fm_Machine_after, fm_Machine_far_keys, fm_Machine_keys_of, fm_Machine_read, ↓strC_ap, ↓kStrC_ap, strO_str, strO_ex, ↓makeLO_ap, ↓kML_ap, ↓cmO_ap, ↓clsA_ap, ↓kCls_ap, ↓starS_ap, ↓kStarS_ap, ↓enIK_ap, ↓kEnIK_ap, ↓compM_ap, ↓kCompM_ap, ↓kCompM2_ap, ↓putB_ap, ↓kPutB1_ap, ↓kPutB2_ap, ↓kPutB3_ap, ↓rowB_ap, ↓regP_ap, ↓kRegP1_ap, ↓regS_ap, d3, htb]
  have cm : ∀ Γ0 : Ev, Γ0 = e03 (.dat scr) (.dat tu) (.dat (tD sg)) wdO (.dat (.tup [rwsI false mr, ensI false false me])) p4 .un .un G → compML Γ0 (tName 9) yesT q_law_v47_2 (mr.map (rwI false)) [] Γ0 = some (rowsL (zM mr), Γ0) := fun Γ0 e0 => by
    subst e0
    have q := compML_a (Γ0 := e03 (.dat scr) (.dat tu) (.dat (tD sg)) wdO (.dat (.tup [rwsI false mr, ensI false false me])) p4 .un .un G) (Γ := e03 (.dat scr) (.dat tu) (.dat (tD sg)) wdO (.dat (.tup [rwsI false mr, ensI false false me])) p4 .un .un G) (g := tName 9) (f := q_law_v47_2) (rwI false) (fun r => r.map (wyI false)) mr [] (fun r hr => by
      refine ⟨_, rfl, ?_⟩
      have rl := to.row r hr
      refine ⟨.dat scr :: .own none p4.o :: .dat tu :: .dat (tD sg) :: wdO :: .un :: .dat (.tup [rwsI false mr, ensI false false me]) :: .un :: .un :: .dat (rwI false r) :: .un :: .un :: .un :: .un :: G, ?_, by
        show .dat scr :: .own none p4.o :: .dat tu :: .dat (tD sg) :: wdO :: .un :: .dat (.tup [rwsI false mr, ensI false false me]) :: .un :: .un :: .un :: .un :: .un :: .un :: .un :: anchor G G = _
        rw [anchor_slf]
        rfl⟩
      unfold e03
      simp_all! only [↓turnF_ap, kF1_ap, ↓turnC_ap, ↓kC1_ap, ↓kC2_ap, ↓kC3_ap, ↓turnN_ap, ↓kN1_ap, ↓kN2_ap, ↓kN3_ap, ↓bodyN_nil, ↓bodyN_cons, ↓kBN_ap, ↓kBC_ap, ↓bodyD_ap, ↓kBD1_ap, ↓kBD2_ap, goes_nx, goes_ct, tc_if, tn_if, fc_Machine_signs, fp_Machine_signs, fg_Machine_signs_0, fg_Machine_signs_1, fg_Machine_signs_2, fg_Machine_signs_3, fc_Machine_rows, fp_Machine_rows, fg_Machine_rows_1, fg_Machine_rows_2, fg_Machine_rows_3, fc_Machine_ends, fp_Machine_ends, fg_Machine_ends_2, fg_Machine_ends_3, fc_Machine_all_keys, fp_Machine_all_keys, fg_Machine_all_keys_3, fm_Machine_after, fm_Machine_far_keys, fm_Machine_keys_of, fm_Machine_read, ↓strC_ap, ↓kStrC_ap, strO_str, strO_ex, ↓makeLO_ap, ↓kML_ap, ↓cmO_ap, ↓clsA_ap, ↓kCls_ap, ↓starS_ap, ↓kStarS_ap, ↓enIK_ap, ↓kEnIK_ap, ↓compM_ap, ↓kCompM_ap, ↓kCompM2_ap, ↓putB_ap, ↓kPutB1_ap, ↓kPutB2_ap, ↓kPutB3_ap, ↓rowB_ap, ↓regP_ap, ↓kRegP1_ap, ↓regS_ap, ↓q_law_v47_2, rwI]) (by rw [sl_eq, List.length_nil]; omega)
    rw [q]
    have e : mr.map (fun r => r.map (wyI false)) = rowsL (zM mr) := by
      unfold rowsL zM
      rw [List.map_map]
      refine List.map_congr_left fun r _ => ?_
      show r.map (wyI false) = (r.map zW).map wyZ
      rw [List.map_map]
      rfl
    rw [e]
    rfl
  have cm := cm _ rfl
  have s3 : s4r (e03 (.dat scr) (.dat tu) (.dat (tD sg)) wdO (.dat (.tup [rwsI false mr, ensI false false me])) p4 .un .un G) = .nx (e03 (.dat scr) (.dat tu) (.dat (tD sg)) wdO (.dat (.tup [rwsI false mr, ensI false false me])) p5 .un (.dat en) G5) := by
    have ix0 : gIx (.tup [rwsI false mr, ensI false false me]) (.int 0) = some (.dat (.lst (mr.map (rwI false)))) := rfl
    have ix1 : gIx (.tup [rwsI false mr, ensI false false me]) (.int 1) = some (.dat (.lst (me.map (enI' false)))) := rfl
    have kp : ∀ ls Γ2, kRegP2 7 8 14 30 16 r_law_v47_1 ls (.own (.lst (me.map (enI' false)))) Γ2 = (match setG Γ2 8 (.own (.lst (me.map (enI' false)))) with
      | some Γ3 => regK 7 14 30 16 r_law_v47_1 ls Γ3
      | none => .bad) := fun _ _ => rfl
    unfold e03 enO at rk
    unfold e03 at cm ⊢
    unfold s4r
    simp_all! only [↓turnF_ap, kF1_ap, ↓turnC_ap, ↓kC1_ap, ↓kC2_ap, ↓kC3_ap, ↓turnN_ap, ↓kN1_ap, ↓kN2_ap, ↓kN3_ap, ↓bodyN_nil, ↓bodyN_cons, ↓kBN_ap, ↓kBC_ap, ↓bodyD_ap, ↓kBD1_ap, ↓kBD2_ap, goes_nx, goes_ct, tc_if, tn_if, fc_Machine_signs, fp_Machine_signs, fg_Machine_signs_0, fg_Machine_signs_1, fg_Machine_signs_2, fg_Machine_signs_3, fc_Machine_rows, fp_Machine_rows, fg_Machine_rows_1, fg_Machine_rows_2, fg_Machine_rows_3, fc_Machine_ends, fp_Machine_ends, fg_Machine_ends_2, fg_Machine_ends_3, fc_Machine_all_keys, fp_Machine_all_keys, fg_Machine_all_keys_3, fm_Machine_after, fm_Machine_far_keys, fm_Machine_keys_of, fm_Machine_read, ↓strC_ap, ↓kStrC_ap, strO_str, strO_ex, ↓makeLO_ap, ↓kML_ap, ↓cmO_ap, ↓clsA_ap, ↓kCls_ap, ↓starS_ap, ↓kStarS_ap, ↓enIK_ap, ↓kEnIK_ap, ↓compM_ap, ↓kCompM_ap, ↓kCompM2_ap, ↓putB_ap, ↓kPutB1_ap, ↓kPutB2_ap, ↓kPutB3_ap, ↓rowB_ap, ↓regP_ap, ↓kRegP1_ap, ↓regS_ap, ix0, ix1, cm, ↓kp, rk]
  refine ⟨h03 scr p5 G5, .inl ?_, p5, G5, rfl, lG5, du5, b5⟩
  rw [s4_eq]
  show fgO [2, 3, 4, 6, 7, 8] (seqS s41 (seqS s42 s4r) (.dat scr :: .own none p.o :: .dat (.int (0 + (t : Nat))) :: .un :: .un :: .un :: .un :: .un :: .un :: .un :: .un :: .un :: .un :: .un :: G)) = _
  rw [← etu, seqS_ap, s1, Out.seq_nx, seqS_ap, s2, Out.seq_nx, s3]
  rfl
theorem lo03_loop (scr : D) (n k : Nat) (p : Pn) (G : Ev) (hG : G.length = 16) (du : DU G) (h : PB p (k + 2000 * n)) :
    ∃ p' G', forL (tName 2) b_law_v47_2 (rangeD 0 n) (h03 scr p G) = .nx (h03 scr p' G') ∧ PB p' k := by
  obtain ⟨Γ', h1, p', G', e, _, _, h2⟩ := forL_x (g := tName 2) (f := b_law_v47_2) (fun i : Nat => .int (0 + (i : Nat)))
    (fun l Γ => ∃ p G, Γ = h03 scr p G ∧ G.length = 16 ∧ DU G ∧ PB p (k + 2000 * l.length))
    (fun x xs Γ hR => by
      obtain ⟨p, G, e, h1, h2, h⟩ := hR
      subst e
      rw [List.length_cons] at h
      obtain ⟨Γ', h1, p', G', e, h2, h3, h4⟩ := lo03_turn scr x (k + 2000 * xs.length) p G h1 h2 (h.mono (by omega))
      exact ⟨Γ', h1, p', G', e, h2, h3, h4⟩) (List.range n) _ ⟨p, G, rfl, hG, du, by rw [List.length_range]; exact h⟩
  subst e
  exact ⟨p', G', h1, h2⟩
theorem k03_true : ∀ ns : List Int, ns.length ≤ 63 → ∃ outs, f_law_v47 [.dat (.fz (ns.map D.int))] = .ok (.dat (.bl true)) outs := by
  intro ns hn
  obtain ⟨m, hm, _, em⟩ := min_k 8 ns.length
  have e3 : (((8 : Nat)) : Int) = 8 := rfl
  rw [e3] at em
  have hp := pen_ok ns
  have pb : PB (({ cells := ns.take 63, at_ := 0, left := 0 } : Pn)) (0 + 2000 * (6 + m)) := ⟨by show (0 : Int) ≤ 0; omega, by show (0 : Int) + _ < 2 ^ 64; omega⟩
  obtain ⟨p', G', hl, _⟩ := lo03_loop (.fz (ns.map D.int)) (6 + m) 0 _ [.un, .un, .un, .un, .un, .un, .un, .un, .un, .un, .un, .un, .un, .un, .un, .un] rfl (fun g hg k o z => by
    have hg : g ∈ List.replicate 16 Slot.un := hg
    rw [List.eq_of_mem_replicate hg] at z
    cases z) pb
  unfold h03 at hl
  refine ⟨[.dat (.fz (ns.map D.int))], ?_⟩
  simp_all! only [↓turnF_ap, kF1_ap, ↓turnC_ap, ↓kC1_ap, ↓kC2_ap, ↓kC3_ap, ↓turnN_ap, ↓kN1_ap, ↓kN2_ap, ↓kN3_ap, ↓bodyN_nil, ↓bodyN_cons, ↓kBN_ap, ↓kBC_ap, ↓bodyD_ap, ↓kBD1_ap, ↓kBD2_ap, goes_nx, goes_ct, tc_if, tn_if, fc_Machine_signs, fp_Machine_signs, fg_Machine_signs_0, fg_Machine_signs_1, fg_Machine_signs_2, fg_Machine_signs_3, fc_Machine_rows, fp_Machine_rows, fg_Machine_rows_1, fg_Machine_rows_2, fg_Machine_rows_3, fc_Machine_ends, fp_Machine_ends, fg_Machine_ends_2, fg_Machine_ends_3, fc_Machine_all_keys, fp_Machine_all_keys, fg_Machine_all_keys_3, fm_Machine_after, fm_Machine_far_keys, fm_Machine_keys_of, fm_Machine_read, ↓strC_ap, ↓kStrC_ap, strO_str, strO_ex, ↓makeLO_ap, ↓kML_ap, ↓cmO_ap, ↓clsA_ap, ↓kCls_ap, ↓starS_ap, ↓kStarS_ap, ↓enIK_ap, ↓kEnIK_ap, ↓compM_ap, ↓kCompM_ap, ↓kCompM2_ap, ↓putB_ap, ↓kPutB1_ap, ↓kPutB2_ap, ↓kPutB3_ap, ↓rowB_ap, ↓regP_ap, ↓kRegP1_ap, ↓regS_ap, ↓u_law_v47, ↓d_law_v47, hp, em, hl]
end Nv
-- M_k03
theorem K03.law_true : ∀ ns : List Int, ns.length ≤ 63 → ∃ outs, Nv.f_law_v47 [.dat (.fz (ns.map Nv.D.int))] = .ok (.dat (.bl true)) outs := Nv.k03_true
end
-- F_k03
namespace K03
open PySem PySem.Spec PyProof.Rows L2 Nv
theorem facts {l0 : PySem.W.OpenLaw} (e0 : l0 = PySem.Challenge.rw_nevermiss_k03_wrong_machines) {w : World} {K : Fr} {h : Heap} {mg : Str → Option Value} {fx : Addr} (X : K.In h) (G : h.Ns mainGlobals mg) (hmg : mg "law" = some (.ref fx)) (cb : (fa K).all id = true) (cv : fn K = vl) :
    ∃ fd : FuncData, (∀ (s : Shared) (v : Value), BindsTo s fd ⟨[v], []⟩ [("script", v)]) ∧ ∀ base : Heap, K.In base → base.Ns mainGlobals mg → FnOk l0.prog w K mg base (L2.CX l0.prog w) 7 fx fd ["script"] (spD ⟨K, mg⟩ 1 f_law_v47) := by
  subst e0
  have v : ∀ (i : Nat) {a b : FV}, (fn K)[i]? = some a → vl[i]? = some b → a = b := fun i {a b} h1 h2 => fn_at cv i h1 h2
  have c0 : ∀ (i : Nat) {b : Bool}, (fa0 K)[i]? = some b → b = true := fun i {b} h => fact_at (fact_at cb 0 rfl) i h
  have c1 : ∀ (i : Nat) {b : Bool}, (fa1 K)[i]? = some b → b = true := fun i {b} h => fact_at (fact_at cb 1 rfl) i h
  have c2 : ∀ (i : Nat) {b : Bool}, (fa2 K)[i]? = some b → b = true := fun i {b} h => fact_at (fact_at cb 2 rfl) i h
  have c3 : ∀ (i : Nat) {b : Bool}, (fa3 K)[i]? = some b → b = true := fun i {b} h => fact_at (fact_at cb 3 rfl) i h
  have c4 : ∀ (i : Nat) {b : Bool}, (fa4 K)[i]? = some b → b = true := fun i {b} h => fact_at (fact_at cb 4 rfl) i h
  have c5 : ∀ (i : Nat) {b : Bool}, (fa5 K)[i]? = some b → b = true := fun i {b} h => fact_at (fact_at cb 5 rfl) i h
  have c6 : ∀ (i : Nat) {b : Bool}, (fa6 K)[i]? = some b → b = true := fun i {b} h => fact_at (fact_at cb 6 rfl) i h
  obtain ⟨_, _, _, _, _, _, _, _, _, l_law_pen, c_law_pen⟩ := fn_get (st := K03.s__law_pen) (v 0 rfl rfl) (c0 0 rfl)
  obtain ⟨_, _, _, _, _, _, _, _, _, l_law_draw, c_law_draw⟩ := fn_get (st := K03.s__law_draw) (v 1 rfl rfl) (c0 1 rfl)
  obtain ⟨_, _, _, _, _, _, _, _, _, l_law_signs, c_law_signs⟩ := fn_get (st := K03.s__law_signs) (v 2 rfl rfl) (c0 2 rfl)
  obtain ⟨_, _, _, _, _, _, _, _, _, l_law_pick, c_law_pick⟩ := fn_get (st := K03.s__law_pick) (v 3 rfl rfl) (c0 3 rfl)
  obtain ⟨_, _, _, _, _, _, _, _, _, l_law_keys, c_law_keys⟩ := fn_get (st := K03.s__law_keys) (v 4 rfl rfl) (c0 4 rfl)
  obtain ⟨_, _, _, _, _, _, _, _, _, l_law_tables, c_law_tables⟩ := fn_get (st := K03.s__law_tables) (v 5 rfl rfl) (c0 5 rfl)
  obtain ⟨_, _, _, _, _, _, _, _, _, lcheck_rows, ccheck_rows⟩ := fn_get (st := K03.s_check_rows) (v 6 rfl rfl) (c0 6 rfl)
  obtain ⟨_, _, _, _, _, _, _, _, _, lascending, cascending⟩ := fn_get (st := K03.s_ascending) (v 7 rfl rfl) (c0 7 rfl)
  obtain ⟨_, _, _, _, _, _, _, _, _, lkeys_in, ckeys_in⟩ := fn_get (st := K03.s_keys_in) (v 8 rfl rfl) (c0 8 rfl)
  obtain ⟨_, _, _, _, _, _, _, _, _, lMachine_init_v1, cMachine_init_v1⟩ := fn_get (st := K03.s_Machine_init_v1) (v 9 rfl rfl) (c0 9 rfl)
  obtain ⟨_, _, _, _, _, _, _, _, _, l_law_told_v7, c_law_told_v7⟩ := fn_get (st := K03.s__law_told_v7) (v 10 rfl rfl) (c0 10 rfl)
  obtain ⟨_, _, _, _, _, _, _, _, _, l_law_due_v9, c_law_due_v9⟩ := fn_get (st := K03.s__law_due_v9) (v 11 rfl rfl) (c0 11 rfl)
  obtain ⟨_, _, _, _, _, _, _, _, _, llaw_v47, claw_v47⟩ := fn_get (st := K03.s_law_v47) (v 12 rfl rfl) (c0 12 rfl)
  obtain ⟨_, _, _, _, _, _, _, _, _, _, lEBadMachine, cdEBadMachine, ⟨_, _, _, ccEBadMachine⟩, _, _, _, _, flEBadMachine, vsEBadMachine⟩ := fn_getE (st := K03.s_EBadMachine) (v 13 rfl rfl) (c0 13 rfl)
  obtain ⟨_, _, _, _, _, _, _, _, _, _, _, _, _, _, _, oCBadMachine, rCBadMachine⟩ := ex_get (c0 14 rfl)
  obtain ⟨_, cldBadMachine⟩ := cl_get (c0 15 rfl)
  obtain ⟨_, _, _, _, _, _, _, _, _, _, lETooMany, cdETooMany, ⟨_, _, _, ccETooMany⟩, _, _, _, _, flETooMany, vsETooMany⟩ := fn_getE (st := K03.s_ETooMany) (v 14 rfl rfl) (c0 16 rfl)
  obtain ⟨_, _, _, _, _, _, _, _, _, _, _, _, _, _, _, oCTooMany, rCTooMany⟩ := ex_get (c0 17 rfl)
  obtain ⟨_, cldTooMany⟩ := cl_get (c0 18 rfl)
  obtain ⟨_, g_MOST_KEYS⟩ := int_get (c0 19 rfl)
  exact all_mk (l := PySem.Challenge.rw_nevermiss_k03_wrong_machines) X G hmg
    (of_decide_eq_true (c1 0 rfl))
    (of_decide_eq_true (c1 1 rfl))
    (of_decide_eq_true (c1 2 rfl))
    (of_decide_eq_true (c1 3 rfl))
    (of_decide_eq_true (c1 4 rfl))
    g_MOST_KEYS
    (of_decide_eq_true (c1 5 rfl))
    (of_decide_eq_true (c1 6 rfl))
    (of_decide_eq_true (c1 7 rfl))
    (of_decide_eq_true (c1 8 rfl))
    (of_decide_eq_true (c1 9 rfl))
    (of_decide_eq_true (c1 10 rfl))
    (of_decide_eq_true (c1 11 rfl))
    (of_decide_eq_true (c1 12 rfl))
    (of_decide_eq_true (c1 13 rfl))
    (of_decide_eq_true (c1 14 rfl))
    (of_decide_eq_true (c1 15 rfl))
    (of_decide_eq_true (c1 16 rfl))
    (of_decide_eq_true (c1 17 rfl))
    l_law_pen
    c_law_pen
    (c1 18 rfl)
    (of_decide_eq_true (c1 19 rfl))
    l_law_draw
    c_law_draw
    (c2 0 rfl)
    (of_decide_eq_true (c2 1 rfl))
    l_law_signs
    c_law_signs
    (c2 2 rfl)
    (of_decide_eq_true (c2 3 rfl))
    l_law_pick
    c_law_pick
    (c2 4 rfl)
    (of_decide_eq_true (c2 5 rfl))
    l_law_keys
    c_law_keys
    (c2 6 rfl)
    (of_decide_eq_true (c2 7 rfl))
    l_law_tables
    c_law_tables
    (c2 8 rfl)
    (of_decide_eq_true (c2 9 rfl))
    lcheck_rows
    ccheck_rows
    (c2 10 rfl)
    (of_decide_eq_true (c2 11 rfl))
    lascending
    cascending
    (c2 12 rfl)
    (of_decide_eq_true (c2 13 rfl))
    lkeys_in
    ckeys_in
    (c2 14 rfl)
    (of_decide_eq_true (c2 15 rfl))
    (c2 16 rfl)
    lMachine_init_v1
    cMachine_init_v1
    (c2 17 rfl)
    (of_decide_eq_true (c2 18 rfl))
    l_law_told_v7
    c_law_told_v7
    (c2 19 rfl)
    (of_decide_eq_true (c3 0 rfl))
    l_law_due_v9
    c_law_due_v9
    (c3 1 rfl)
    (of_decide_eq_true (c3 2 rfl))
    llaw_v47
    claw_v47
    (c3 3 rfl)
    (of_decide_eq_true (c3 4 rfl))
    (of_decide_eq_true (c3 5 rfl))
    (of_decide_eq_true (c3 6 rfl))
    oCBadMachine
    rCBadMachine
    cldBadMachine
    (of_decide_eq_true (c3 7 rfl))
    (of_decide_eq_true (c3 8 rfl))
    (of_decide_eq_true (c3 9 rfl))
    (of_decide_eq_true (c3 10 rfl))
    (of_decide_eq_true (c3 11 rfl))
    (of_decide_eq_true (c3 12 rfl))
    (c3 13 rfl)
    (c3 14 rfl)
    (of_decide_eq_true (c3 15 rfl))
    (of_decide_eq_true (c3 16 rfl))
    (of_decide_eq_true (c3 17 rfl))
    (of_decide_eq_true (c3 18 rfl))
    (of_decide_eq_true (c3 19 rfl))
    lEBadMachine
    cdEBadMachine
    flEBadMachine
    vsEBadMachine
    ccEBadMachine
    (of_decide_eq_true (c4 0 rfl))
    (of_decide_eq_true (c4 1 rfl))
    (of_decide_eq_true (c4 2 rfl))
    oCTooMany
    rCTooMany
    cldTooMany
    (of_decide_eq_true (c4 3 rfl))
    (of_decide_eq_true (c4 4 rfl))
    (of_decide_eq_true (c4 5 rfl))
    (of_decide_eq_true (c4 6 rfl))
    (of_decide_eq_true (c4 7 rfl))
    (of_decide_eq_true (c4 8 rfl))
    (c4 9 rfl)
    (c4 10 rfl)
    (of_decide_eq_true (c4 11 rfl))
    (of_decide_eq_true (c4 12 rfl))
    (of_decide_eq_true (c4 13 rfl))
    (of_decide_eq_true (c4 14 rfl))
    (of_decide_eq_true (c4 15 rfl))
    lETooMany
    cdETooMany
    flETooMany
    vsETooMany
    ccETooMany
    (of_decide_eq_true (c4 16 rfl))
    (of_decide_eq_true (c4 17 rfl))
    (of_decide_eq_true (c4 18 rfl))
    (of_decide_eq_true (c4 19 rfl))
    (c5 0 rfl)
    (of_decide_eq_true (c5 1 rfl))
    (of_decide_eq_true (c5 2 rfl))
    (of_decide_eq_true (c5 3 rfl))
    (of_decide_eq_true (c5 4 rfl))
    (of_decide_eq_true (c5 5 rfl))
    (of_decide_eq_true (c5 6 rfl))
    (of_decide_eq_true (c5 7 rfl))
    (of_decide_eq_true (c5 8 rfl))
    (by decide +kernel)
    (of_decide_eq_true (c5 9 rfl))
    (of_decide_eq_true (c5 10 rfl))
    (c5 11 rfl)
    (c5 12 rfl)
    (c5 13 rfl)
    (of_decide_eq_true (c5 14 rfl))
    (c5 15 rfl)
    (c5 16 rfl)
    (of_decide_eq_true (c5 17 rfl))
    (of_decide_eq_true (c5 18 rfl))
    (of_decide_eq_true (c5 19 rfl))
    (of_decide_eq_true (c6 0 rfl))
end K03
open PySem PySem.W PySem.Calls PyProof.Rows in
set_option maxRecDepth 100000 in
set_option maxHeartbeats 0 in
theorem PySem.Challenge.cw_nevermiss_k03_wrong_machines_holds : PySem.Challenge.rw_nevermiss_k03_wrong_machines.Holds := by
  w_on; o_law
  refine HandSHeadRun.head_any (r := K03.RW) (q := K03.qv) (H := K03.hk) (ob := Nv.obF Nv.asM K03.fa K03.fn) (M := 20000) (loose := K03.names) (d := HandSHeadRun.topDef K03.RW.prog 37) (kwd := []) (fun s => Nv.obF_eq s)
    (by kernel_rfl) (fun s => by kernel_rfl) K03.run (by kernel_rfl) (by kernel_rfl) (by kernel_rfl) (by rfl) (by first | assumption | decide +kernel) (by decide +kernel) ⟨rfl, rfl, rfl, rfl, rfl, by decide +kernel⟩ ?hw ?hc
  case hw => w_witness2
  case hc =>
    refine Nv.end_ofE (lev := 7) (f := Nv.f_law_v47) K03.law_true rfl (by kernel_rfl) (by kernel_rfl) rfl ?F
    intro w mg fx h ⟨K, X, cb, cv⟩ G hmg
    exact ⟨K, X, K03.facts rfl X G hmg cb cv⟩
