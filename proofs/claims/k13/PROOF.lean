import PyProof.Rows.All
import Wide.All
import OpenK.AllK
import Wide.FinOn
import HandS.ForMost
import HandS.Exc
import HandS.WordsExc
import HandS.Evl
import HandS.Walk
import HandS.Nested
import HandS.Iter
import HandS.Wide
import HandS.IsInst
import HandS.Deep
import HandS.Star
import HandS.Style
import HandS.TupAny
import HandS.TupLen
import HandS.Flow
import KE.GoesEnum
import KE.GoesEnumKw
import HandS.NoneIn
import HandS.CallSlots
import HandS.Codes
import HandS.Zip
import HandS.DictComp
import HandS.More
import HandS.RaiseMore
import PyProof.CollectStr
import PyProof.TupleOfSeq
import HandS.ExcInit
import HandS.ExcField
import HandS.ExcIs
import HandS.ExcValue
import KE.KExcSuper
import KE.KIsAll
import HandS.Replace
import HandS.FStr
import HandS.Set
import HandS.SetFor
import HandS.Strs
import KE.SortData
import PyProof.ListStr
import PyProof.WalksMore
import KE.LtData
import HandS.HotCalls
import OpenK.KMeth
import OpenK.KOps
import HandS.ListItems
import KE.KEqDict
import KE.DataMinMax
import HandS.Conv
import HandS.DictTup
import KE.KDictCopyH
import HandS.TupLe
import HandS.TupSets
import HandS.Defaults
import HandS.HeadEnd
import HandS.HeadHook1
import HandS.Head0
import HandS.Head1
import HandS.Head2
import HandS.EndTab
import HandS.Ends
import PyProof.ReprRoads
import HandS.ReplaceLit
import KE.KCallOwn
import KE.KUnpackStar
import HandS.ClsMeth
import HandS.HeadNt
import PyProof.Rows.CallKwBuiltin
import HandS.Lambda
import HandS.CallLocal
import HandS.NestedK
import PySem.Challenge.RW_nevermiss_k13_first_texts
set_option Elab.async false
set_option linter.all false
set_option maxRecDepth 100000
set_option maxHeartbeats 4000000
set_option autoImplicit false
-- N0
namespace Nv
open PySem
abbrev tPsilent : Addr := 259
def nmsilent : Nat → Nat → Str := fun l c => if l = 144 ∧ c = 4 then (("silent" : Str) ++ ".<locals>.") ++ "goal_of" else (("silent" : Str) ++ ".<locals>.") ++ "<lambda>"
abbrev tPgiving : Addr := 252
def nmgiving : Nat → Nat → Str := fun l c => if l = 138 ∧ c = 4 then (("giving" : Str) ++ ".<locals>.") ++ "goal_of" else (("giving" : Str) ++ ".<locals>.") ++ "<lambda>"
def theTabs : List NdefX.NTab := [(tPsilent, nmsilent), (tPgiving, nmgiving)]
theorem tIsilent : (tPsilent, nmsilent) ∈ theTabs := List.mem_cons_self
theorem tUsilent : ∀ p ∈ theTabs, p.1 = tPsilent → p.2 = nmsilent := by
  intro p hp e
  simp only [theTabs, List.mem_cons, List.not_mem_nil, or_false] at hp
  rcases hp with rfl | rfl <;> first | rfl | exact absurd e (by decide)
theorem tIgiving : (tPgiving, nmgiving) ∈ theTabs := (List.mem_cons_of_mem _ List.mem_cons_self)
theorem tUgiving : ∀ p ∈ theTabs, p.1 = tPgiving → p.2 = nmgiving := by
  intro p hp e
  simp only [theTabs, List.mem_cons, List.not_mem_nil, or_false] at hp
  rcases hp with rfl | rfl <;> first | rfl | exact absurd e (by decide)
end Nv
-- N1
namespace Nv
open PySem PySem.Spec PyProof.Rows L2
open Evl (Ex)
/-- plain data -/
inductive D where
  | non | bl (b : Bool) | int (i : Int) | str (s : Str)
  | tup (l : List D) | lst (l : List D) | fz (l : List D)
  | dct (l : List (D × D)) | dtt (l : List (D × D))
  | ins (c : Str) (l : List (Str × D))
  | ty (n : String) | cls (c : Str)
  | exn (c : Str) (l : List (Str × D))
  | opq (a : Addr)
  | fnv (f : Addr) (F : NdefX.NF) (b : Option Expr)
  | exv (v : V) (d : D)
/-- the exception object at a, caught once, of the class at C, its dict at dx -/
def exE (a C : Addr) (dx : Option Addr) : HO := .ext fun h => ∃ (oe : Obj) (vs : Array Value), h.get? a = some oe ∧ Zc (.ref C) dx oe ∧ oe.data = .fields vs
/-- the object at f is a lambda -/
def LamO (f : Addr) (F : NdefX.NF) (b : Expr) : HO := .ext fun h => ∃ (pm ctv : Value), h.get? f = some (PySem.W.kla_obj F.name F.qual F.params b F.scope F.cl pm F.c ctv)
/-- the object at f is a function made in a def -/
def fnQ (f : Addr) (F : NdefX.NF) : Option Expr → HO
  | none => NdefX.FnO f F
  | some b => LamO f F b
/-- the module's names -/
structure Md where
  K : PySem.W.Frag
  mg : Str → Option Value
abbrev tabsOf (_ : Md) : List NdefX.NTab := theTabs
def kD : Key → D
  | .inl i => .int i
  | .inr x => .str x
def kOk : Key → Bool
  | .inl _ => true
  | .inr x => PySem.PyData.strOk x
/-- a tuple at a; an empty one may stand in the written part -/
def TupAt (M : Md) (H : Hp) (l : List D) (a : Addr) (xs : List V) : Prop := H a = some (.tup xs) ∨ (l = [] ∧ SqT M.K H a [])
mutual
/-- the value stands for the data -/
def Rep (M : Md) (H : Hp) : D → V → Prop
  | .non, v => v = .non
  | .bl b, v => v = .bl b
  | .int i, v => v = .int i
  | .str s, v => v = .str s ∧ PySem.PyData.strOk s = true
  | .tup l, v => ∃ a xs, v = .ref a ∧ TupAt M H l a xs ∧ Reps M H l xs
  | .lst l, v => ∃ a xs, v = .ref a ∧ H a = some (.lst xs) ∧ Reps M H l xs
  | .fz l, v => ∃ a xs, v = .ref a ∧ SqL M.K H a xs ∧ Reps M H l xs
  | .dct l, v => ∃ a kvs, v = .ref a ∧ (∃ od, H a = some (.frz od (.dK kvs))) ∧ RepK M H l kvs
  | .dtt l, v => ∃ a kvs, v = .ref a ∧ (∃ od, H a = some (.frz od (.dT kvs))) ∧ RepT M H l kvs
  | .ins c l, v => ∃ a C dx fs, v = .ref a ∧ M.mg c = some (.ref C) ∧ H a = some (.ins C dx fs) ∧ RepF M H l fs
  | .ty n, v => v = .ty n
  | .cls c, v => ∃ C, v = .ref C ∧ M.mg c = some (.ref C)
  | .exn c l, v => ∃ a C dx fs, v = .ref a ∧ M.mg c = some (.ref C) ∧ H a = some (exE a C dx) ∧ ((dx = none ∧ fs = []) ∨ ∃ b, dx = some b ∧ H b = some (.xd fs)) ∧ RepF M H l fs
  | .opq a, v => v = .ref a
  | .fnv f F b, v => v = .ref f ∧ H f = some (fnQ f F b) ∧ H F.c = some (LamX.CodeO F.c F.qual)
  | .exv w d, v => v = w ∧ Rep M H d v
def Reps (M : Md) (H : Hp) : List D → List V → Prop
  | [], xs => xs = []
  | d :: l, xs => ∃ v r, xs = v :: r ∧ Rep M H d v ∧ Reps M H l r
def RepK (M : Md) (H : Hp) : List (D × D) → List (Key × V) → Prop
  | [], xs => xs = []
  | (k, d) :: l, xs => ∃ q v r, xs = (q, v) :: r ∧ (k = kD q ∧ kOk q = true) ∧ Rep M H d v ∧ RepK M H l r
def RepT (M : Md) (H : Hp) : List (D × D) → List (List Key × V) → Prop
  | [], xs => xs = []
  | (k, d) :: l, xs => ∃ q v r, xs = (q, v) :: r ∧ (k = .tup (q.map kD) ∧ q.all kOk = true) ∧ Rep M H d v ∧ RepT M H l r
def RepF (M : Md) (H : Hp) : List (Str × D) → List (Str × V) → Prop
  | [], xs => xs = []
  | (f, d) :: l, xs => ∃ v r, xs = (f, v) :: r ∧ Rep M H d v ∧ RepF M H l r
end
theorem TupAt.mono {M : Md} {H H' : Hp} {l : List D} {a : Addr} {xs : List V} (h : TupAt M H l a xs) (e : Ex H H') : TupAt M H' l a xs := h.imp (e _ _) fun z => ⟨z.1, Evl.ex_t e z.2⟩
mutual
theorem Rep.mono {M : Md} {H H' : Hp} (e : Ex H H') : ∀ {d : D} {v : V}, Rep M H d v → Rep M H' d v
  | .non, _, h => h
  | .bl _, _, h => h
  | .int _, _, h => h
  | .str _, _, h => h
  | .tup l, _, h => by
    unfold Rep at h ⊢
    obtain ⟨a, xs, h1, h2, h3⟩ := h
    exact ⟨a, xs, h1, h2.mono e, Reps.mono e h3⟩
  | .lst l, _, h => by
    unfold Rep at h ⊢
    obtain ⟨a, xs, h1, h2, h3⟩ := h
    exact ⟨a, xs, h1, e _ _ h2, Reps.mono e h3⟩
  | .fz l, _, h => by
    unfold Rep at h ⊢
    obtain ⟨a, xs, h1, h2, h3⟩ := h
    exact ⟨a, xs, h1, Evl.ex_l e h2, Reps.mono e h3⟩
  | .dct l, _, h => by
    unfold Rep at h ⊢
    obtain ⟨a, kvs, h1, ⟨od, h2⟩, h3⟩ := h
    exact ⟨a, kvs, h1, ⟨od, e _ _ h2⟩, RepK.mono e h3⟩
  | .dtt l, _, h => by
    unfold Rep at h ⊢
    obtain ⟨a, kvs, h1, ⟨od, h2⟩, h3⟩ := h
    exact ⟨a, kvs, h1, ⟨od, e _ _ h2⟩, RepT.mono e h3⟩
  | .ins c l, _, h => by
    unfold Rep at h ⊢
    obtain ⟨a, C, dx, fs, h1, h2, h3, h4⟩ := h
    exact ⟨a, C, dx, fs, h1, h2, e _ _ h3, RepF.mono e h4⟩
  | .ty _, _, h => h
  | .cls _, _, h => h
  | .exn c l, _, h => by
    unfold Rep at h ⊢
    obtain ⟨a, C, dx, fs, h1, h2, h3, h4, h5⟩ := h
    exact ⟨a, C, dx, fs, h1, h2, e _ _ h3, h4.imp id fun ⟨b, x, y⟩ => ⟨b, x, e _ _ y⟩, RepF.mono e h5⟩
  | .opq _, _, h => h
  | .fnv f F b, _, h => by
    unfold Rep at h ⊢
    exact ⟨h.1, e _ _ h.2.1, e _ _ h.2.2⟩
  | .exv w d, _, h => by
    unfold Rep at h ⊢
    exact ⟨h.1, Rep.mono e h.2⟩
theorem Reps.mono {M : Md} {H H' : Hp} (e : Ex H H') : ∀ {l : List D} {xs : List V}, Reps M H l xs → Reps M H' l xs
  | [], _, h => h
  | d :: l, _, h => by
    unfold Reps at h ⊢
    obtain ⟨v, r, h1, h2, h3⟩ := h
    exact ⟨v, r, h1, Rep.mono e h2, Reps.mono e h3⟩
theorem RepK.mono {M : Md} {H H' : Hp} (e : Ex H H') : ∀ {l : List (D × D)} {xs : List (Key × V)}, RepK M H l xs → RepK M H' l xs
  | [], _, h => h
  | (k, d) :: l, _, h => by
    unfold RepK at h ⊢
    obtain ⟨q, v, r, h1, h2, h3, h4⟩ := h
    exact ⟨q, v, r, h1, h2, Rep.mono e h3, RepK.mono e h4⟩
theorem RepT.mono {M : Md} {H H' : Hp} (e : Ex H H') : ∀ {l : List (D × D)} {xs : List (List Key × V)}, RepT M H l xs → RepT M H' l xs
  | [], _, h => h
  | (k, d) :: l, _, h => by
    unfold RepT at h ⊢
    obtain ⟨q, v, r, h1, h2, h3, h4⟩ := h
    exact ⟨q, v, r, h1, h2, Rep.mono e h3, RepT.mono e h4⟩
theorem RepF.mono {M : Md} {H H' : Hp} (e : Ex H H') : ∀ {l : List (Str × D)} {xs : List (Str × V)}, RepF M H l xs → RepF M H' l xs
  | [], _, h => h
  | (f, d) :: l, _, h => by
    unfold RepF at h ⊢
    obtain ⟨v, r, h1, h2, h3⟩ := h
    exact ⟨v, r, h1, Rep.mono e h2, RepF.mono e h3⟩
end
section
variable {M : Md} {H : Hp}
@[simp] theorem rep_non {v : V} : Rep M H .non v ↔ v = .non := by unfold Rep; exact Iff.rfl
@[simp] theorem rep_bl {b : Bool} {v : V} : Rep M H (.bl b) v ↔ v = .bl b := by unfold Rep; exact Iff.rfl
@[simp] theorem rep_int {i : Int} {v : V} : Rep M H (.int i) v ↔ v = .int i := by unfold Rep; exact Iff.rfl
theorem rep_str {x : Str} {v : V} : Rep M H (.str x) v ↔ v = .str x ∧ PySem.PyData.strOk x = true := by unfold Rep; exact Iff.rfl
theorem rep_tup {l : List D} {v : V} : Rep M H (.tup l) v ↔ ∃ a xs, v = .ref a ∧ TupAt M H l a xs ∧ Reps M H l xs := by unfold Rep; exact Iff.rfl
theorem rep_lst {l : List D} {v : V} : Rep M H (.lst l) v ↔ ∃ a xs, v = .ref a ∧ H a = some (.lst xs) ∧ Reps M H l xs := by unfold Rep; exact Iff.rfl
theorem rep_fz {l : List D} {v : V} : Rep M H (.fz l) v ↔ ∃ a xs, v = .ref a ∧ SqL M.K H a xs ∧ Reps M H l xs := by unfold Rep; exact Iff.rfl
theorem rep_dct {l : List (D × D)} {v : V} : Rep M H (.dct l) v ↔ ∃ a kvs, v = .ref a ∧ (∃ od, H a = some (.frz od (.dK kvs))) ∧ RepK M H l kvs := by unfold Rep; exact Iff.rfl
theorem rep_dtt {l : List (D × D)} {v : V} : Rep M H (.dtt l) v ↔ ∃ a kvs, v = .ref a ∧ (∃ od, H a = some (.frz od (.dT kvs))) ∧ RepT M H l kvs := by unfold Rep; exact Iff.rfl
theorem rep_ins {c : Str} {l : List (Str × D)} {v : V} : Rep M H (.ins c l) v ↔ ∃ a C dx fs, v = .ref a ∧ M.mg c = some (.ref C) ∧ H a = some (.ins C dx fs) ∧ RepF M H l fs := by unfold Rep; exact Iff.rfl
theorem rep_exn {c : Str} {l : List (Str × D)} {v : V} : Rep M H (.exn c l) v ↔ ∃ a C dx fs, v = .ref a ∧ M.mg c = some (.ref C) ∧ H a = some (exE a C dx) ∧ ((dx = none ∧ fs = []) ∨ ∃ b, dx = some b ∧ H b = some (.xd fs)) ∧ RepF M H l fs := by unfold Rep; exact Iff.rfl
theorem rep_fnv {f : Addr} {F : NdefX.NF} {b : Option Expr} {v : V} : Rep M H (.fnv f F b) v ↔ v = .ref f ∧ H f = some (fnQ f F b) ∧ H F.c = some (LamX.CodeO F.c F.qual) := by unfold Rep; exact Iff.rfl
theorem rep_exv {w : V} {d : D} {v : V} : Rep M H (.exv w d) v ↔ v = w ∧ Rep M H d v := by rw [Rep]
@[simp] theorem reps_nil {xs : List V} : Reps M H [] xs ↔ xs = [] := by unfold Reps; exact Iff.rfl
theorem reps_cons {d : D} {l : List D} {xs : List V} : Reps M H (d :: l) xs ↔ ∃ v r, xs = v :: r ∧ Rep M H d v ∧ Reps M H l r := by rw [Reps]
theorem Reps.nil : Reps M H [] [] := by simp
theorem Reps.cons {d : D} {l : List D} {v : V} {xs : List V} (h : Rep M H d v) (t : Reps M H l xs) : Reps M H (d :: l) (v :: xs) := reps_cons.mpr ⟨v, xs, rfl, h, t⟩
theorem TupAt.sq {l : List D} {a : Addr} {xs : List V} (h : TupAt M H l a xs) (r : Reps M H l xs) : SqT M.K H a xs := by
  rcases h with h | ⟨rfl, h⟩
  · exact SqT.of h
  · cases reps_nil.mp r; exact h
theorem Reps.length : ∀ {l : List D} {xs : List V}, Reps M H l xs → xs.length = l.length
  | [], _, h => by simp at h; subst h; rfl
  | d :: l, _, h => by
    obtain ⟨v, r, rfl, _, h3⟩ := reps_cons.mp h
    simp [Reps.length h3]
theorem Reps.get : ∀ {l : List D} {xs : List V} {i : Nat} {d : D}, Reps M H l xs → l[i]? = some d → ∃ v, xs[i]? = some v ∧ Rep M H d v
  | [], _, _, _, _, e => by simp at e
  | d :: l, _, 0, _, h, e => by
    obtain ⟨v, r, rfl, h2, h3⟩ := reps_cons.mp h
    simp at e; subst e
    exact ⟨v, rfl, h2⟩
  | d :: l, _, i + 1, _, h, e => by
    obtain ⟨v, r, rfl, h2, h3⟩ := reps_cons.mp h
    obtain ⟨w, h4, h5⟩ := Reps.get (i := i) h3 (by simpa using e)
    exact ⟨w, by simpa using h4, h5⟩
theorem Reps.getv : ∀ {l : List D} {xs : List V} {i : Nat} {v : V}, Reps M H l xs → xs[i]? = some v → ∃ d, l[i]? = some d ∧ Rep M H d v := fun {l xs i v} h e => by
  have hl := h.length
  have hi : i < l.length := by rw [← hl]; exact (List.getElem?_eq_some_iff.mp e).1
  obtain ⟨w, h1, h2⟩ := h.get (List.getElem?_eq_getElem hi)
  rw [e] at h1
  cases h1
  exact ⟨_, List.getElem?_eq_getElem hi, h2⟩
theorem Reps.append : ∀ {l m : List D} {xs ys : List V}, Reps M H l xs → Reps M H m ys → Reps M H (l ++ m) (xs ++ ys)
  | [], _, _, _, h, t => by simp at h; subst h; exact t
  | d :: l, _, _, _, h, t => by
    obtain ⟨v, r, rfl, h2, h3⟩ := reps_cons.mp h
    exact Reps.cons h2 (Reps.append h3 t)
theorem Reps.snoc {l : List D} {xs : List V} {d : D} {v : V} (h : Reps M H l xs) (t : Rep M H d v) : Reps M H (l ++ [d]) (xs ++ [v]) := h.append (Reps.cons t Reps.nil)
theorem Reps.take : ∀ {l : List D} {xs : List V} (n : Nat), Reps M H l xs → Reps M H (l.take n) (xs.take n)
  | _, _, 0, _ => by simp
  | [], _, n + 1, h => by simp at h; subst h; simp
  | d :: l, _, n + 1, h => by
    obtain ⟨v, r, rfl, h2, h3⟩ := reps_cons.mp h
    exact Reps.cons h2 (Reps.take n h3)
theorem Reps.drop : ∀ {l : List D} {xs : List V} (n : Nat), Reps M H l xs → Reps M H (l.drop n) (xs.drop n)
  | _, _, 0, h => h
  | [], _, n + 1, h => by simp at h; subst h; simp
  | d :: l, _, n + 1, h => by
    obtain ⟨v, r, rfl, h2, h3⟩ := reps_cons.mp h
    exact Reps.drop n h3
theorem Reps.reverse : ∀ {l : List D} {xs : List V}, Reps M H l xs → Reps M H l.reverse xs.reverse
  | [], _, h => by simp at h; subst h; simp
  | d :: l, _, h => by
    obtain ⟨v, r, rfl, h2, h3⟩ := reps_cons.mp h
    rw [List.reverse_cons, List.reverse_cons]
    exact (Reps.reverse h3).snoc h2
theorem Reps.ints : ∀ {ns : List Int} {xs : List V}, Reps M H (ns.map .int) xs → xs = ns.map V.int
  | [], _, h => by simp at h; subst h; rfl
  | n :: ns, _, h => by
    obtain ⟨v, r, rfl, h2, h3⟩ := reps_cons.mp h
    simp at h2; subst h2
    rw [Reps.ints h3]; rfl
theorem Reps.strs : ∀ {ns : List Str} {xs : List V}, Reps M H (ns.map .str) xs → xs = ns.map V.str ∧ ns.all PySem.PyData.strOk = true
  | [], _, h => by simp at h; subst h; exact ⟨rfl, rfl⟩
  | n :: ns, _, h => by
    obtain ⟨v, r, rfl, h2, h3⟩ := reps_cons.mp h
    obtain ⟨rfl, _⟩ := rep_str.mp h2
    obtain ⟨h4, h5⟩ := Reps.strs h3
    exact ⟨by rw [h4]; rfl, by rw [List.all_cons, Bool.and_eq_true]; exact ⟨(rep_str.mp h2).2, h5⟩⟩
theorem Reps.mkStrs : ∀ {ns : List Str}, ns.all PySem.PyData.strOk = true → Reps M H (ns.map .str) (ns.map V.str)
  | [], _ => Reps.nil
  | n :: ns, h => by
    rw [List.all_cons, Bool.and_eq_true] at h
    exact Reps.cons (rep_str.mpr ⟨rfl, h.1⟩) (Reps.mkStrs h.2)
theorem Reps.mkInts : ∀ {ns : List Int}, Reps M H (ns.map .int) (ns.map V.int)
  | [] => Reps.nil
  | n :: ns => Reps.cons (rep_int.mpr rfl) Reps.mkInts
end
/-- an object of the def's own: nobody else holds it -/
inductive O where
  | lst (l : List D) | dct (l : List (D × D)) | dtt (l : List (D × D)) | ins (c : Str) (l : List (Str × D))
def O.d : O → D
  | .lst l => .lst l
  | .dct l => .dct l
  | .dtt l => .dtt l
  | .ins c l => .ins c l
inductive Slot where
  | un | dat (d : D) | own (t : Option Nat) (o : O)
abbrev Ev := List Slot
inductive AV where
  | dat (d : D) | own (o : O)
def AV.d : AV → D
  | .dat d => d
  | .own o => o.d
/-- the object at a stands in H, what it holds in F -/
def ORep (M : Md) (F H : Hp) (a : Addr) : O → Prop
  | .lst l => ∃ xs, H a = some (.lst xs) ∧ Reps M F l xs
  | .dct l => ∃ kvs, H a = some (.dK kvs) ∧ RepK M F l kvs
  | .dtt l => ∃ kvs, H a = some (.dT kvs) ∧ RepT M F l kvs
  | .ins c l => ∃ C dx fs, M.mg c = some (.ref C) ∧ H a = some (.ins C dx fs) ∧ RepF M F l fs
theorem ORep.some {M : Md} {F H : Hp} {a : Addr} {o : O} (h : ORep M F H a o) : ∃ u, H a = some u := by
  cases o with
  | lst l => obtain ⟨xs, h, _⟩ := h; exact ⟨_, h⟩
  | dct l => obtain ⟨xs, h, _⟩ := h; exact ⟨_, h⟩
  | dtt l => obtain ⟨xs, h, _⟩ := h; exact ⟨_, h⟩
  | ins c l => obtain ⟨C, dx, fs, _, h, _⟩ := h; exact ⟨_, h⟩
/-- an object that is no table of code objects -/
def NTb : HO → Prop
  | .tbl _ => False
  | _ => True
theorem ntb_of {o : HO} (h : ∀ ps, o ≠ .tbl ps) : NTb o := by
  cases o <;> first | trivial | exact absurd rfl (h _)
theorem NTb.ne {o : HO} (h : NTb o) : ∀ ps, o ≠ .tbl ps := fun ps z => by rw [z] at h; exact h
theorem ORep.ntb {M : Md} {F H : Hp} {a : Addr} {o : O} (h : ORep M F H a o) {u : HO} (hu : H a = Option.some u) : NTb u := by
  cases o with
  | lst l => obtain ⟨xs, h, _⟩ := h; rw [hu] at h; cases h; trivial
  | dct l => obtain ⟨xs, h, _⟩ := h; rw [hu] at h; cases h; trivial
  | dtt l => obtain ⟨xs, h, _⟩ := h; rw [hu] at h; cases h; trivial
  | ins c l => obtain ⟨C, dx, fs, _, h, _⟩ := h; rw [hu] at h; cases h; trivial
/-- an object that is no tuple -/
def NT : HO → Prop
  | .tup _ => False
  | .tbl _ => False
  | .ext _ => False
  | _ => True
theorem NT.ntb {o : HO} (h : NT o) : NTb o := by
  cases o <;> first | trivial | exact h
theorem ORep.nt {M : Md} {F H : Hp} {a : Addr} {o : O} (h : ORep M F H a o) {u : HO} (hu : H a = Option.some u) : NT u := by
  cases o with
  | lst l => obtain ⟨xs, h, _⟩ := h; rw [hu] at h; cases h; trivial
  | dct l => obtain ⟨xs, h, _⟩ := h; rw [hu] at h; cases h; trivial
  | dtt l => obtain ⟨xs, h, _⟩ := h; rw [hu] at h; cases h; trivial
  | ins c l => obtain ⟨C, dx, fs, _, h, _⟩ := h; rw [hu] at h; cases h; trivial
theorem ORep.mono {M : Md} {F F' H H' : Hp} {a : Addr} {o : O} (h : ORep M F H a o) (e : Ex F F') (e2 : H' a = H a) : ORep M F' H' a o := by
  cases o with
  | lst l => obtain ⟨xs, h, r⟩ := h; exact ⟨xs, e2.trans h, r.mono e⟩
  | dct l => obtain ⟨xs, h, r⟩ := h; exact ⟨xs, e2.trans h, r.mono e⟩
  | dtt l => obtain ⟨xs, h, r⟩ := h; exact ⟨xs, e2.trans h, r.mono e⟩
  | ins c l => obtain ⟨C, dx, fs, h0, h, r⟩ := h; exact ⟨C, dx, fs, h0, e2.trans h, r.mono e⟩
/-- what is locked when it becomes data -/
def O.isD : O → Bool
  | .dct _ => true
  | .dtt _ => true
  | _ => false
theorem ORep.rep {M : Md} {F H : Hp} {a : Addr} {o : O} (h : ORep M F H a o) (e : Ex F H) (nd : o.isD = false) : Rep M H o.d (.ref a) := by
  cases o with
  | lst l => obtain ⟨xs, h, r⟩ := h; exact rep_lst.mpr ⟨a, xs, rfl, h, r.mono e⟩
  | dct l => cases nd
  | dtt l => cases nd
  | ins c l => obtain ⟨C, dx, fs, h0, h, r⟩ := h; exact rep_ins.mpr ⟨a, C, dx, fs, rfl, h0, h, r.mono e⟩
theorem ORep.repL {M : Md} {F H : Hp} {a : Addr} {o : O} (h : ORep M F H a o) (nd : o.isD = true) (nf : F a = none) : ∃ u, H a = Option.some u ∧ Mut (Option.some u) ∧ ∀ od, Rep M (upd F a (.frz od u)) o.d (.ref a) := by
  cases o with
  | lst l => cases nd
  | dct l => obtain ⟨xs, h, r⟩ := h; exact ⟨_, h, trivial, fun od => rep_dct.mpr ⟨a, xs, rfl, ⟨od, upd_same⟩, r.mono (Evl.Ex.new nf)⟩⟩
  | dtt l => obtain ⟨xs, h, r⟩ := h; exact ⟨_, h, trivial, fun od => rep_dtt.mpr ⟨a, xs, rfl, ⟨od, upd_same⟩, r.mono (Evl.Ex.new nf)⟩⟩
  | ins c l => cases nd
/-- the top node is read in H, what it holds in F -/
def Rep1 (M : Md) (F H : Hp) : D → V → Prop
  | .lst l, v => ∃ a xs, v = .ref a ∧ H a = some (.lst xs) ∧ Reps M F l xs
  | .dct l, v => ∃ a kvs, v = .ref a ∧ Rd H a (.dK kvs) ∧ RepK M F l kvs
  | .dtt l, v => ∃ a kvs, v = .ref a ∧ Rd H a (.dT kvs) ∧ RepT M F l kvs
  | .ins c l, v => ∃ a C dx fs, v = .ref a ∧ M.mg c = some (.ref C) ∧ H a = some (.ins C dx fs) ∧ RepF M F l fs
  | d, v => Rep M F d v
theorem Rep.one {M : Md} {F H : Hp} {d : D} {v : V} (h : Rep M F d v) (e : Ex F H) : Rep1 M F H d v := by
  cases d with
  | tup l => exact h
  | fz l => exact h
  | lst l => obtain ⟨a, xs, h1, h2, h3⟩ := rep_lst.mp h; exact ⟨a, xs, h1, e _ _ h2, h3⟩
  | dct l => obtain ⟨a, xs, h1, ⟨od, h2⟩, h3⟩ := rep_dct.mp h; exact ⟨a, xs, h1, .inr ⟨od, e _ _ h2⟩, h3⟩
  | dtt l => obtain ⟨a, xs, h1, ⟨od, h2⟩, h3⟩ := rep_dtt.mp h; exact ⟨a, xs, h1, .inr ⟨od, e _ _ h2⟩, h3⟩
  | ins c l => obtain ⟨a, C, dx, fs, h1, h2, h3, h4⟩ := rep_ins.mp h; exact ⟨a, C, dx, fs, h1, h2, e _ _ h3, h4⟩
  | non => exact h
  | bl b => exact h
  | int i => exact h
  | str s => exact h
  | ty n => exact h
  | cls c => exact h
  | exn c l => exact h
  | opq w => exact h
  | fnv f F b => exact h
  | exv w d => exact h
theorem ORep.one {M : Md} {F H : Hp} {a : Addr} {o : O} (h : ORep M F H a o) : Rep1 M F H o.d (.ref a) := by
  cases o with
  | lst l => obtain ⟨xs, h, r⟩ := h; exact ⟨a, xs, rfl, h, r⟩
  | dct l => obtain ⟨xs, h, r⟩ := h; exact ⟨a, xs, rfl, .inl h, r⟩
  | dtt l => obtain ⟨xs, h, r⟩ := h; exact ⟨a, xs, rfl, .inl h, r⟩
  | ins c l => obtain ⟨C, dx, fs, h0, h, r⟩ := h; exact ⟨a, C, dx, fs, rfl, h0, h, r⟩
def D.isD : D → Bool
  | .dct _ => true
  | .dtt _ => true
  | _ => false
theorem Rep1.rep {M : Md} {F H : Hp} {d : D} {v : V} (h : Rep1 M F H d v) (e : Ex F H) (nd : d.isD = false) : Rep M H d v := by
  cases d with
  | tup l => exact Rep.mono e h
  | fz l => exact Rep.mono e h
  | lst l => obtain ⟨a, xs, h1, h2, h3⟩ := h; exact rep_lst.mpr ⟨a, xs, h1, h2, h3.mono e⟩
  | dct l => cases nd
  | dtt l => cases nd
  | ins c l => obtain ⟨a, C, dx, fs, h1, h2, h3, h4⟩ := h; exact rep_ins.mpr ⟨a, C, dx, fs, h1, h2, h3, h4.mono e⟩
  | non => exact Rep.mono e h
  | bl b => exact Rep.mono e h
  | int i => exact Rep.mono e h
  | str s => exact Rep.mono e h
  | ty n => exact h
  | cls c => exact h
  | exn c l => exact Rep.mono e h
  | opq w => exact h
  | fnv f F b => exact Rep.mono e h
  | exv w d => exact Rep.mono e h
/-- the addresses of the own objects -/
def own (σ : L2.St) (Γ : Ev) (a : Addr) : Prop := ∃ (i : Nat) (t : Option Nat) (o : O), Γ[i]? = some (.own t o) ∧ σ[i]? = some (some (.ref a))
def SRel (M : Md) (σ0 : L2.St) (F H : Hp) (s : Option V) : Slot → Prop
  | .un => True
  | .dat d => ∃ v, s = some v ∧ Rep M F d v
  | .own t o => ∃ a, s = some (.ref a) ∧ F a = none ∧ ORep M F H a o ∧ ∀ k : Nat, t = some k → σ0[k]? = some (some (.ref a))
/-- neither a table nor a code object -/
def NX : HO → Prop
  | .tbl _ => False
  | .ext _ => False
  | _ => True
theorem NX.ntb {o : HO} (h : NX o) : NTb o := by
  cases o <;> first | trivial | exact h
theorem ORep.nx {M : Md} {F H : Hp} {a : Addr} {o : O} (h : ORep M F H a o) {u : HO} (hu : H a = Option.some u) : NX u := by
  cases o with
  | lst l => obtain ⟨xs, h, _⟩ := h; rw [hu] at h; cases h; trivial
  | dct l => obtain ⟨xs, h, _⟩ := h; rw [hu] at h; cases h; trivial
  | dtt l => obtain ⟨xs, h, _⟩ := h; rw [hu] at h; cases h; trivial
  | ins c l => obtain ⟨C, dx, fs, _, h, _⟩ := h; rw [hu] at h; cases h; trivial
theorem tabs_upd {T : List NdefX.NTab} {H : Hp} {p : Addr} {o : HO} (h : ∀ u, H p = some u → NX u) (t : NdefX.TabsN T H) : NdefX.TabsN T (upd H p o) := fun q hq => by
  obtain ⟨ps, h1, h2, h3⟩ := t q hq
  have n1 : q.1 ≠ p := fun z => (show NX (.tbl ps) from h _ (by rw [← z]; exact h1))
  refine ⟨ps, by rw [upd_ne n1]; exact h1, h2, fun pos cv hc => ?_⟩
  obtain ⟨c, e1, e2⟩ := h3 pos cv hc
  have n2 : c ≠ p := fun z => (show NX (LamX.CodeO c (q.2 pos.line pos.col)) from h _ (by rw [← z]; exact e2))
  exact ⟨c, e1, by rw [upd_ne n2]; exact e2⟩
/-- the tables are known, and no table is data -/
structure TabI (M : Md) (F H : Hp) : Prop where
  t : NdefX.TabsN (tabsOf M) H
  f : ∀ b ps, F b ≠ some (.tbl ps)
theorem TabI.ext {M : Md} {F H H' : Hp} (t : TabI M F H) (e : ∀ b o, H b = some o → H' b = some o) : TabI M F H' := ⟨t.t.ext e, t.f⟩
theorem TabI.upd {M : Md} {F H : Hp} {p : Addr} {o : HO} (t : TabI M F H) (h : ∀ u, H p = some u → NX u) : TabI M F (upd H p o) := ⟨tabs_upd h t.t, t.f⟩
theorem TabI.updF {M : Md} {F H : Hp} {p : Addr} {o : HO} (t : TabI M F H) (h : NTb o) : TabI M (L2.upd F p o) H := ⟨t.t, fun b ps z => by
  by_cases e : b = p
  · subst e; rw [upd_same] at z; cases z; exact h
  · rw [upd_ne e] at z; exact t.f b ps z⟩
structure Rel (M : Md) (σ0 : L2.St) (F H : Hp) (σ : L2.St) (Γ : Ev) : Prop where
  sub : Ex F H
  len : σ.length = Γ.length
  slot : ∀ (i : Nat) (s : Option V) (g : Slot), σ[i]? = some s → Γ[i]? = some g → SRel M σ0 F H s g
  sep : ∀ (i j : Nat) (t : Option Nat) (o : O) (t' : Option Nat) (o' : O) (a : Addr), Γ[i]? = some (.own t o) → Γ[j]? = some (.own t' o') → σ[i]? = some (some (.ref a)) → σ[j]? = some (some (.ref a)) → i = j
  tab : TabI M F H
/-- tables stay tables, and tell what they told -/
structure Keep (F H F' H' : Hp) : Prop where
  hs : ∀ b, H' b = none → H b = none
  tb : NdefX.TabsN theTabs H → NdefX.TabsN theTabs H'
  ft : ∀ b ps, F' b = some (.tbl ps) → F b = some (.tbl ps)
theorem TabI.keep {M : Md} {F H F' H' : Hp} (t : TabI M F H) (k : Keep F H F' H') : TabI M F' H' := ⟨k.tb t.t, fun b ps z => t.f b ps (k.ft b ps z)⟩
theorem Keep.refl {F H : Hp} : Keep F H F H := ⟨fun _ h => h, fun h => h, fun _ _ h => h⟩
theorem Keep.trans {F H F' H' F'' H'' : Hp} (a : Keep F H F' H') (b : Keep F' H' F'' H'') : Keep F H F'' H'' :=
  ⟨fun x h => a.hs x (b.hs x h), fun h => b.tb (a.tb h), fun x ps h => a.ft x ps (b.ft x ps h)⟩
theorem Keep.ext {F H H' : Hp} (e : ∀ b o, H b = some o → H' b = some o) : Keep F H F H' := by
  refine ⟨fun b h => ?_, fun t => t.ext e, fun _ _ h => h⟩
  cases z : H b with
  | none => rfl
  | some u => rw [e b u z] at h; cases h
theorem none_nt {H : Hp} {p : Addr} {P : HO → Prop} (n : H p = none) : ∀ u, H p = some u → P u := fun u h => by rw [n] at h; cases h
theorem Keep.upd {F H : Hp} {p : Addr} {o : HO} (h : ∀ u, H p = some u → NX u) : Keep F H F (L2.upd H p o) := by
  refine ⟨fun b z => ?_, fun t => tabs_upd h t, fun _ _ h => h⟩
  by_cases e : b = p
  · subst e; rw [upd_same] at z; cases z
  · rwa [upd_ne e] at z
theorem Keep.updF {F H : Hp} {p : Addr} {o : HO} (ho : NTb o) : Keep F H (L2.upd F p o) H := ⟨fun _ h => h, fun h => h, fun b ps z => by
  by_cases e : b = p
  · subst e; rw [upd_same] at z; cases z; exact absurd ho (fun q => q)
  · rwa [upd_ne e] at z⟩
/-- one object is written, or laid, and is data from now on -/
theorem Keep.both {F H : Hp} {p : Addr} {o o' : HO} (h : ∀ u, H p = some u → NX u) (ho : NTb o) : Keep F H (L2.upd F p o) (L2.upd H p o') := (Keep.upd h).trans (Keep.updF ho)
structure Ext (A : Addr → Prop) (F H : Hp) (A' : Addr → Prop) (F' H' : Hp) : Prop where
  ff : Ex F F'
  hh : ∀ b o, ¬ A b → H b = some o → NTb o → H' b = some o
  fn : ∀ b o, ¬ A b → H b = some o → F b = none → NT o → F' b = none
  aa : ∀ b, A' b → A b ∨ H b = none
  k : Keep F H F' H'
theorem Ext.refl {A : Addr → Prop} {F H : Hp} : Ext A F H A F H := ⟨Evl.Ex.refl _, fun _ _ _ h _ => h, fun _ _ _ _ h _ => h, fun _ h => .inl h, Keep.refl⟩
theorem Ext.trans {A A' A'' : Addr → Prop} {F H F' H' F'' H'' : Hp} (a : Ext A F H A' F' H') (b : Ext A' F' H' A'' F'' H'') : Ext A F H A'' F'' H'' := by
  have na : ∀ x o, ¬ A x → H x = some o → ¬ A' x := fun x o n h z => by
    rcases a.aa x z with q | q
    · exact n q
    · rw [h] at q; cases q
  refine ⟨a.ff.trans b.ff, fun x o n h nt => b.hh x o (na x o n h) (a.hh x o n h nt) nt, fun x o n h hf nt => ?_, fun x z => ?_, a.k.trans b.k⟩
  · exact b.fn x o (na x o n h) (a.hh x o n h nt.ntb) (a.fn x o n h hf nt) nt
  · rcases b.aa x z with q | q
    · exact a.aa x q
    · exact .inr (a.k.hs x q)
/-- a new object is laid, the frame as it was -/
theorem Ext.new {A : Addr → Prop} {F H : Hp} {p : Addr} {o : HO} (n : H p = none) : Ext A F H A F (upd H p o) :=
  ⟨Evl.Ex.refl _, fun b u _ h _ => by rw [upd_ne (ne_of_none h n)]; exact h, fun _ _ _ _ h _ => h, fun _ h => .inl h, Keep.upd (none_nt n)⟩
theorem Ext.newF {A : Addr → Prop} {F H : Hp} {p : Addr} {o : HO} (n : H p = none) (nf : F p = none) (ho : NTb o := by trivial) : Ext A F H A (upd F p o) (upd H p o) :=
  ⟨Evl.Ex.new nf, fun b u _ h _ => by rw [upd_ne (ne_of_none h n)]; exact h, fun b u _ h hf _ => by rw [upd_ne (ne_of_none h n)]; exact hf, fun _ h => .inl h, Keep.both (none_nt n) ho⟩
theorem Ext.sub {A B : Addr → Prop} {F H F' H' : Hp} (e : Ext B F H B F' H') (h : ∀ b, B b → A b) : Ext A F H A F' H' :=
  ⟨e.ff, fun b o n => e.hh b o fun z => n (h b z), fun b o n => e.fn b o fun z => n (h b z), fun _ z => .inl z, e.k⟩
/-- a result: data, or a new own object -/
def AVR (M : Md) (A0 : Addr → Prop) (H0 F H : Hp) (A : Addr → Prop) (v : V) : AV → Prop
  | .dat d => Rep M F d v
  | .own o => ∃ a, v = .ref a ∧ F a = none ∧ ¬ A a ∧ ORep M F H a o ∧ (A0 a ∨ H0 a = none)
section
variable {M : Md} {σ0 : L2.St} {F H F' H' : Hp} {σ : L2.St} {Γ : Ev}
theorem Rel.fr (r : Rel M σ0 F H σ Γ) {p : Addr} (h : H p = none) : F p = none := by
  cases e : F p with
  | none => rfl
  | some o => rw [r.sub _ _ e] at h; cases h
theorem Rel.get (r : Rel M σ0 F H σ Γ) {i : Nat} {g : Slot} (h : Γ[i]? = some g) : ∃ s, σ[i]? = some s ∧ SRel M σ0 F H s g := by
  have hi : i < σ.length := by rw [r.len]; exact (List.getElem?_eq_some_iff.mp h).1
  exact ⟨_, List.getElem?_eq_getElem hi, r.slot i _ g (List.getElem?_eq_getElem hi) h⟩
theorem Rel.dat (r : Rel M σ0 F H σ Γ) {i : Nat} {d : D} (h : Γ[i]? = some (.dat d)) : ∃ v, σ[i]? = some (some v) ∧ Rep M F d v := by
  obtain ⟨s, h1, v, rfl, h2⟩ := r.get h
  exact ⟨v, h1, h2⟩
theorem Rel.own (r : Rel M σ0 F H σ Γ) {i : Nat} {t : Option Nat} {o : O} (h : Γ[i]? = some (Slot.own t o)) : ∃ a, σ[i]? = some (some (.ref a)) ∧ F a = none ∧ ORep M F H a o ∧ (∀ k : Nat, t = some k → σ0[k]? = some (some (.ref a))) ∧ Nv.own σ Γ a := by
  obtain ⟨s, h1, a, rfl, h2, h3, h4⟩ := r.get h
  exact ⟨a, h1, h2, h3, h4, i, t, o, h, h1⟩
/-- the own addresses stand in the heap, not in the frame -/
theorem Rel.ownF (r : Rel M σ0 F H σ Γ) {a : Addr} (h : Nv.own σ Γ a) : F a = Option.none ∧ ∃ u, H a = some u := by
  obtain ⟨i, t, o, h1, h2⟩ := h
  obtain ⟨b, h3, h4, h5, _⟩ := r.own h1
  rw [h2] at h3; cases h3
  exact ⟨h4, h5.some⟩
theorem Rel.ownNT (r : Rel M σ0 F H σ Γ) {a : Addr} (h : Nv.own σ Γ a) {u : HO} (hu : H a = some u) : NT u := by
  obtain ⟨i, t, o, h1, h2⟩ := h
  obtain ⟨b, h3, h4, h5, _⟩ := r.own h1
  rw [h2] at h3; cases h3
  exact h5.nt hu
/-- all own objects stay, the rest grows -/
theorem Rel.ownNX (r : Rel M σ0 F H σ Γ) {a : Addr} (h : Nv.own σ Γ a) {u : HO} (hu : H a = some u) : NX u := by
  obtain ⟨i, t, o, h1, h2⟩ := h
  obtain ⟨b, h3, h4, h5, _⟩ := r.own h1
  rw [h2] at h3; cases h3
  exact h5.nx hu
theorem Rel.grow (r : Rel M σ0 F H σ Γ) (e : Ex F F') (s : Ex F' H') (k : ∀ a, Nv.own σ Γ a → H' a = H a ∧ F' a = Option.none) (tb : TabI M F' H') : Rel M σ0 F' H' σ Γ := by
  refine ⟨s, r.len, fun i x g h1 h2 => ?_, r.sep, tb⟩
  have q := r.slot i x g h1 h2
  cases g with
  | un => trivial
  | dat d => obtain ⟨v, e1, e2⟩ := q; exact ⟨v, e1, e2.mono e⟩
  | own t o =>
    obtain ⟨a, e1, e2, e3, e4⟩ := q
    subst e1
    obtain ⟨k1, k2⟩ := k a ⟨i, t, o, h2, h1⟩
    exact ⟨a, rfl, k2, e3.mono e k1, e4⟩
theorem Rel.new {p : Addr} {o : HO} (r : Rel M σ0 F H σ Γ) (n : H p = Option.none) : Rel M σ0 F (upd H p o) σ Γ :=
  r.grow (Evl.Ex.refl _) (r.sub.trans (Evl.Ex.new n)) (fun a h => by
    obtain ⟨h1, u, h2⟩ := r.ownF h
    exact ⟨upd_ne (ne_of_none h2 n), h1⟩) (r.tab.upd (none_nt n))
theorem Rel.newF {p : Addr} {o : HO} (r : Rel M σ0 F H σ Γ) (n : H p = Option.none) (ho : NTb o := by trivial) : Rel M σ0 (upd F p o) (upd H p o) σ Γ :=
  r.grow (Evl.Ex.new (r.fr n)) (fun b u h => by
    by_cases z : b = p
    · subst z; rw [upd_same] at h ⊢; exact h
    · rw [upd_ne z] at h ⊢; exact r.sub _ _ h) (fun a h => by
    obtain ⟨h1, u, h2⟩ := r.ownF h
    exact ⟨upd_ne (ne_of_none h2 n), by rw [upd_ne (ne_of_none h2 n)]; exact h1⟩) ((r.tab.upd (none_nt n)).updF ho)
/-- an object that is not the slots' own goes into the frame -/
theorem Rel.freeze {p : Addr} {o : HO} (r : Rel M σ0 F H σ Γ) (h : H p = some o) (nf : F p = Option.none) (no : ¬ Nv.own σ Γ p) (ho : NTb o := by trivial) : Rel M σ0 (upd F p o) H σ Γ :=
  r.grow (Evl.Ex.new nf) (fun b u e => by
    by_cases z : b = p
    · subst z; rw [upd_same] at e; cases e; exact h
    · rw [upd_ne z] at e; exact r.sub _ _ e) (fun a q => ⟨rfl, by
      rw [upd_ne (show a ≠ p from fun z => no (z ▸ q))]
      exact (r.ownF q).1⟩) (r.tab.updF ho)
/-- .. and is locked -/
theorem Rel.freezeL {p : Addr} {o o' : HO} (r : Rel M σ0 F H σ Γ) (h : H p = some o) (nf : F p = Option.none) (no : ¬ Nv.own σ Γ p) (ho : NX o := by trivial) (ho' : NTb o' := by trivial) : Rel M σ0 (upd F p o') (upd H p o') σ Γ :=
  r.grow (Evl.Ex.new nf) (fun b u e => by
    by_cases z : b = p
    · subst z; rw [upd_same] at e ⊢; exact e
    · rw [upd_ne z] at e ⊢; exact r.sub _ _ e) (fun a q => by
      have np : a ≠ p := fun z => no (z ▸ q)
      rw [upd_ne np, upd_ne np]
      exact ⟨rfl, (r.ownF q).1⟩) ((r.tab.upd (fun u z => by rw [h] at z; cases z; exact ho)).updF ho')
end
end Nv
-- N2
namespace Nv
open PySem PySem.Spec PyProof.Rows L2
open Evl (Ex)
inductive Rs (α : Type) where
  | ok (a : α) (Γ : Ev) | ex (c : Str) (l : List (Str × D)) (Γ : Ev) | bad
def Rs.bind {α β : Type} (r : Rs α) (f : α → Ev → Rs β) : Rs β :=
  match r with
  | .ok a Γ => f a Γ
  | .ex c l Γ => .ex c l Γ
  | .bad => .bad
inductive OV where
  | dat (d : D) | slot (i : Nat)
def look (Γ : Ev) (i : Nat) : Option D :=
  match Γ[i]? with
  | some (.dat d) => some d
  | some (.own _ o) => some o.d
  | _ => none
def OV.get (Γ : Ev) : OV → Option D
  | .dat d => some d
  | .slot i => look Γ i
def gets (Γ : Ev) : List OV → Option (List D)
  | [] => some []
  | o :: r => match o.get Γ, gets Γ r with
    | some d, some ds => some (d :: ds)
    | _, _ => none
/-- an exception's own dict -/
def XR (M : Md) (F : Hp) (l : List (Str × D)) (dx : Option Addr) : Prop := (l = [] ∧ dx = none) ∨ ∃ a fs, dx = some a ∧ F a = some (.xd fs) ∧ RepF M F l fs
/-- the context: the module, the arguments, the wish about exceptions -/
structure Cf where
  M : Md
  σ0 : L2.St
  W : WX
/-- relations of results: the slots, the state ahead, the state behind -/
abbrev VRel (α β : Type) := L2.St → Hp → Hp → Ev → Hp → Hp → Ev → β → α → Prop
def Po {α β : Type} (c : Cf) (R : VRel α β) (σ : L2.St) (F H : Hp) (Γ : Ev) (r : Rs α) (Q : β → Hp → Prop) : Prop :=
  match r with
  | .ok a Γ' => ∀ F' H' v, Rel c.M c.σ0 F' H' σ Γ' → Ext (own σ Γ) F H (own σ Γ') F' H' → R σ F H Γ F' H' Γ' v a → Q v H'
  | .ex n l Γ' => ∀ F' H' C dx, Rel c.M c.σ0 F' H' σ Γ' → Ext (own σ Γ) F H (own σ Γ') F' H' → c.M.mg n = some (.ref C) → XR c.M F' l dx → c.W (.ref C) dx σ H'
  | .bad => False
def tR {α β : Type} (c : Cf) (R : VRel α β) (f : Ev → Rs α) : L2.St → Hp → (β → Hp → Prop) → Prop := fun σ H Q => ∃ F Γ, Rel c.M c.σ0 F H σ Γ ∧ Po c R σ F H Γ (f Γ) Q
def vrD (M : Md) : VRel D V := fun _ _ _ _ F' _ _ v d => Rep M F' d v
def vrO (M : Md) : VRel AV V := fun σ _ H Γ F' H' Γ' v av => AVR M (own σ Γ) H F' H' (own σ Γ') v av
def ovR (M : Md) (σ : L2.St) (F : Hp) (v : V) : OV → Prop
  | .dat d => Rep M F d v
  | .slot i => σ[i]? = some (some v)
def ovsR (M : Md) (σ : L2.St) (F : Hp) : List V → List OV → Prop
  | [], [] => True
  | v :: vs, o :: os => ovR M σ F v o ∧ ovsR M σ F vs os
  | _, _ => False
def vrB (M : Md) : VRel OV V := fun σ _ _ _ F' _ _ v o => ovR M σ F' v o
def vrA (M : Md) : VRel (List OV) (List V) := fun σ _ _ _ F' _ _ vs os => ovsR M σ F' vs os
def vrT : VRel Bool Bool := fun _ _ _ _ _ _ _ b c => b = c
/-- a later start does for an earlier one -/
def Shifts {α β : Type} (R : VRel α β) : Prop := ∀ σ F H Γ F1 H1 Γ1 F' H' Γ' v a, Ext (own σ Γ) F H (own σ Γ1) F1 H1 → R σ F1 H1 Γ1 F' H' Γ' v a → R σ F H Γ F' H' Γ' v a
theorem sh_A {M : Md} : Shifts (vrA M) := fun _ _ _ _ _ _ _ _ _ _ _ _ _ h => h
theorem sh_T : Shifts vrT := fun _ _ _ _ _ _ _ _ _ _ _ _ _ h => h
theorem Ext.back {A A' : Addr → Prop} {F H F' H' : Hp} (e : Ext A F H A' F' H') {a : Addr} (h : A' a ∨ H' a = none) : A a ∨ H a = none := by
  rcases h with h | h
  · exact e.aa a h
  · by_cases n : A a
    · exact .inl n
    · exact .inr (e.k.hs a h)
theorem sh_O {M : Md} : Shifts (vrO M) := fun σ F H Γ F1 H1 Γ1 F' H' Γ' v a e h => by
  cases a with
  | dat d => exact h
  | own o =>
    obtain ⟨p, h1, h2, h3, h4, h5⟩ := h
    exact ⟨p, h1, h2, h3, h4, e.back h5⟩
section
variable {c : Cf} {α β γ δ : Type} {R : VRel α β} {S : VRel γ δ} {σ : L2.St} {F H F1 H1 : Hp} {Γ Γ1 : Ev} {Q : δ → Hp → Prop}
theorem Po.shift (hs : Shifts S) {r : Rs γ} (e : Ext (own σ Γ) F H (own σ Γ1) F1 H1) (h : Po c S σ F H Γ r Q) : Po c S σ F1 H1 Γ1 r Q := by
  cases r with
  | ok a Γ' => exact fun F' H' v r1 e1 v1 => h F' H' v r1 (e.trans e1) (hs _ _ _ _ _ _ _ _ _ _ _ _ e v1)
  | ex n l Γ' => exact fun F' H' C dx r1 e1 m x => h F' H' C dx r1 (e.trans e1) m x
  | bad => exact h
/-- a run, then what follows -/
theorem Po.bind {r : Rs α} {k : α → Ev → Rs γ} (h : Po c S σ F H Γ (r.bind k) Q) :
    Po c R σ F H Γ r (fun v H' => ∃ F' Γ' a, Rel c.M c.σ0 F' H' σ Γ' ∧ Ext (own σ Γ) F H (own σ Γ') F' H' ∧ R σ F H Γ F' H' Γ' v a ∧ Po c S σ F H Γ (k a Γ') Q) := by
  cases r with
  | ok a Γ' => exact fun F' H' v r1 e1 v1 => ⟨F', Γ', a, r1, e1, v1, h⟩
  | ex n l Γ' => exact h
  | bad => exact h
theorem Po.imp {r : Rs α} {P P' : β → Hp → Prop} (h : Po c R σ F H Γ r P) (i : ∀ v H', P v H' → P' v H') : Po c R σ F H Γ r P' := by
  cases r with
  | ok a Γ' => exact fun F' H' v r1 e1 v1 => i _ _ (h F' H' v r1 e1 v1)
  | ex n l Γ' => exact h
  | bad => exact h
end
abbrev DE (X : Cx) (c : Cf) (e : Expr) (f : Ev → Rs D) : Prop := PE X e (tR c (vrD c.M) f)
abbrev DO (X : Cx) (c : Cf) (e : Expr) (f : Ev → Rs AV) : Prop := PE X e (tR c (vrO c.M) f)
abbrev DB (X : Cx) (c : Cf) (e : Expr) (f : Ev → Rs OV) : Prop := PE X e (tR c (vrB c.M) f)
abbrev DA (X : Cx) (c : Cf) (es : List Expr) (f : Ev → Rs (List OV)) : Prop := PA X es (tR c (vrA c.M) f)
abbrev DT (X : Cx) (c : Cf) (e : Expr) (f : Ev → Rs Bool) : Prop := PT X e (tR c vrT f)
theorem PE.of {X : Cx} {e : Expr} {t t' : TE} (h : PE X e t) (i : ∀ σ H Q, t' σ H Q → t σ H Q) : PE X e t' := ⟨fun pins s σ H Q I q => h.run pins s σ H Q I (i σ H Q q)⟩
theorem PT.of {X : Cx} {e : Expr} {t t' : TT} (h : PT X e t) (i : ∀ σ H Q, t' σ H Q → t σ H Q) : PT X e t' := ⟨fun pins s σ H Q I q => h.run pins s σ H Q I (i σ H Q q)⟩
theorem PA.of {X : Cx} {e : List Expr} {t t' : TA} (h : PA X e t) (i : ∀ σ H Q, t' σ H Q → t σ H Q) : PA X e t' := ⟨fun pos pins s σ H Q I q => h.run pos pins s σ H Q I (i σ H Q q)⟩
section
variable {X : Cx} {c : Cf} {e : Expr} {es : List Expr}
/-- the frame takes a new own object up: it is data now -/
def AV.frz (r : Rs AV) : Rs D := r.bind fun av Γ => .ok av.d Γ
/-- what is made is perhaps locked -/
def LkQ {β : Type} (Q : β → Hp → Prop) : β → Hp → Prop := fun v H' => Q v H' ∨ ∃ d u, H' d = some u ∧ Mut (some u) ∧ ∀ od, Q v (upd H' d (.frz od u))
theorem PE.lk {t t' : TE} (h : PE X e t) (i : ∀ σ H Q, t' σ H Q → t σ H (LkQ Q)) : PE X e t' := ⟨fun pins s σ H Q I q => thn (h.run pins s σ H _ I (i σ H Q q)) fun v s1 ⟨x, H1, I1, r1, q1⟩ => by
  rcases q1 with q1 | ⟨d, u, hd, mu, q1⟩
  · exact ⟨x, H1, I1, r1, q1⟩
  · obtain ⟨od, I2⟩ := I1.lock hd mu
    exact ⟨x, _, I2, r1, q1 od⟩⟩
theorem avr_frz {M : Md} {σ0 σ : L2.St} {F H F' H' : Hp} {Γ Γ' : Ev} {v : V} {av : AV} {Q : VK} (r : Rel M σ0 F' H' σ Γ') (e : Ext (own σ Γ) F H (own σ Γ') F' H') (a : AVR M (own σ Γ) H F' H' (own σ Γ') v av)
    (q : ∀ F2 H2, Rel M σ0 F2 H2 σ Γ' → Ext (own σ Γ) F H (own σ Γ') F2 H2 → Rep M F2 av.d v → Q v H2) : LkQ Q v H' := by
  cases av with
  | dat d => exact .inl (q F' H' r e a)
  | own o =>
    obtain ⟨p, rfl, h1, h2, h3, h4⟩ := a
    have np : ∀ {b : Addr} {x : HO}, ¬ own σ Γ b → H b = some x → b ≠ p := fun {b x} n hb z => by
      subst z
      rcases h4 with h4 | h4
      · exact n h4
      · rw [hb] at h4; cases h4
    cases hd : o.isD with
    | false =>
      obtain ⟨u, hu⟩ := h3.some
      refine .inl (q (upd F' p u) H' (r.freeze hu h1 h2 (h3.ntb hu)) ⟨e.ff.trans (Evl.Ex.new h1), e.hh, fun b x n q f nt => ?_, e.aa, e.k.trans (Keep.updF (h3.ntb hu))⟩ ?_)
      · rw [upd_ne (np n q)]
        exact e.fn b x n q f nt
      · have hh : (upd F' p u) p = H' p := by rw [upd_same, hu]
        exact (h3.mono (H' := upd F' p u) (Evl.Ex.new h1) hh).rep (fun _ _ h => h) hd
    | true =>
      obtain ⟨u, hu, mu, hr⟩ := h3.repL hd h1
      refine .inr ⟨p, u, hu, mu, fun od => q (upd F' p (.frz od u)) (upd H' p (.frz od u)) (r.freezeL hu h1 h2 (h3.nx hu)) ⟨e.ff.trans (Evl.Ex.new h1), fun b x n q nt => ?_, fun b x n q f nt => ?_, e.aa, e.k.trans (Keep.both (fun z hz => h3.nx hz) trivial)⟩ (hr od)⟩
      · rw [upd_ne (np n q)]
        exact e.hh b x n q nt
      · rw [upd_ne (np n q)]
        exact e.fn b x n q f nt
theorem de_frz {f : Ev → Rs AV} (h : DO X c e f) : DE X c e (fun Γ => AV.frz (f Γ)) := by
  refine PE.lk h fun σ H Q ⟨F, Γ, r, q⟩ => ⟨F, Γ, r, ?_⟩
  refine (Po.bind (R := vrO c.M) q).imp fun v H' ⟨F', Γ', av, r1, e1, a1, q1⟩ => ?_
  exact avr_frz r1 e1 a1 fun F2 H2 r2 e2 a2 => q1 F2 H2 v r2 e2 a2
end
def noA : Addr → Prop := fun _ => False
def reps1 (M : Md) (F H : Hp) : List D → List V → Prop
  | [], [] => True
  | d :: ds, v :: vs => Rep1 M F H d v ∧ reps1 M F H ds vs
  | _, _ => False
/-- a result of an operation: data, or a new own object -/
def AVN (M : Md) (H F' H' : Hp) (v : V) : AV → Prop
  | .dat d => Rep M F' d v
  | .own o => ∃ a, v = .ref a ∧ H a = none ∧ F' a = none ∧ ORep M F' H' a o
/-- what an operation on values asks is met by data, and gives what g says -/
def OpS (M : Md) (r : List V → Hp → VK → Prop) (g : List D → Option AV) : Prop :=
  ∀ F H vs ds av Q, Ex F H → reps1 M F H ds vs → g ds = some av → (∀ F' H' v, Ext noA F H noA F' H' → Ex F' H' → AVN M H F' H' v av → Q v H') → r vs H Q
section
variable {c : Cf} {σ : L2.St} {F H : Hp} {Γ : Ev}
theorem Rel.op {σ0 : L2.St} {M : Md} {F' H' : Hp} (r : Rel M σ0 F H σ Γ) (e : Ext noA F H noA F' H') (s : Ex F' H') : Rel M σ0 F' H' σ Γ :=
  r.grow e.ff s (fun a h => by
    obtain ⟨h1, u, h2⟩ := r.ownF h
    exact ⟨by rw [e.hh a u id h2 (r.ownNX h h2).ntb, h2], e.fn a u id h2 h1 (r.ownNT h h2)⟩) (r.tab.keep e.k)
theorem AVN.avr {M : Md} {σ0 : L2.St} {F' H' : Hp} {v : V} {av : AV} (r : Rel M σ0 F H σ Γ) (h : AVN M H F' H' v av) : AVR M (own σ Γ) H F' H' (own σ Γ) v av := by
  cases av with
  | dat d => exact h
  | own o =>
    obtain ⟨a, h1, h2, h3, h4⟩ := h
    refine ⟨a, h1, h3, fun z => ?_, h4, .inr h2⟩
    obtain ⟨_, u, hu⟩ := r.ownF z
    rw [h2] at hu; cases hu
theorem look_rep {M : Md} {σ0 : L2.St} (r : Rel M σ0 F H σ Γ) {i : Nat} {d : D} {v : V} (h : look Γ i = some d) (hv : σ[i]? = some (some v)) : Rep1 M F H d v := by
  unfold look at h
  split at h
  · rename_i d' h'
    cases h
    obtain ⟨w, h1, h2⟩ := r.dat h'
    rw [hv] at h1; cases h1
    exact h2.one r.sub
  · rename_i t o h'
    cases h
    obtain ⟨a, h1, _, h3, _⟩ := r.own h'
    rw [hv] at h1; cases h1
    exact h3.one
  · cases h
theorem get_rep {M : Md} {σ0 : L2.St} (r : Rel M σ0 F H σ Γ) {o : OV} {d : D} {v : V} (h : o.get Γ = some d) (hv : ovR M σ F v o) : Rep1 M F H d v := by
  cases o with
  | dat d' =>
    have h' : some d' = some d := h
    cases h'
    exact Rep.one hv r.sub
  | slot i => exact look_rep r h hv
theorem gets_rep {M : Md} {σ0 : L2.St} (r : Rel M σ0 F H σ Γ) : ∀ {os : List OV} {ds : List D} {vs : List V}, gets Γ os = some ds → ovsR M σ F vs os → reps1 M F H ds vs
  | [], ds, [], h, _ => by
    cases h
    trivial
  | [], _, _ :: _, _, h => h.elim
  | _ :: _, _, [], _, h => h.elim
  | o :: os, ds, v :: vs, h, hv => by
    unfold gets at h
    split at h
    · rename_i d ds' h1 h2
      cases h
      exact ⟨get_rep r h1 hv.1, gets_rep r h2 hv.2⟩
    · cases h
theorem ovR.ext {M : Md} {F' : Hp} {v : V} {o : OV} (h : ovR M σ F v o) (e : Ex F F') : ovR M σ F' v o := by
  cases o with
  | dat d => exact Rep.mono e h
  | slot i => exact h
theorem ovsR.ext {M : Md} {F' : Hp} (e : Ex F F') : ∀ {vs : List V} {os : List OV}, ovsR M σ F vs os → ovsR M σ F' vs os
  | [], [], _ => trivial
  | [], _ :: _, h => h.elim
  | _ :: _, [], h => h.elim
  | _ :: _, _ :: _, h => ⟨h.1.ext e, h.2.ext e⟩
end
/-- the operation g over operands -/
def opR (g : List D → Option AV) (os : List OV) (Γ : Ev) : Rs AV :=
  match gets Γ os with
  | some ds => (match g ds with
    | some av => .ok av Γ
    | none => .bad)
  | none => .bad
theorem po_op {c : Cf} {r : List V → Hp → VK → Prop} {g : List D → Option AV} (hg : OpS c.M r g) {σ : L2.St} {F H F1 H1 : Hp} {Γ Γ1 : Ev} {os : List OV} {vs : List V} {Q : VK} (rel : Rel c.M c.σ0 F1 H1 σ Γ1) (e : Ext (own σ Γ) F H (own σ Γ1) F1 H1)
    (hv : ovsR c.M σ F1 vs os) (q : Po c (vrO c.M) σ F H Γ (opR g os Γ1) Q) : r vs H1 Q := by
  unfold opR at q
  split at q
  · rename_i ds h1
    split at q
    · rename_i av h2
      refine hg F1 H1 vs ds av Q rel.sub (gets_rep rel h1 hv) h2 fun F' H' v x1 x2 x3 => ?_
      have e2 : Ext (own σ Γ1) F1 H1 (own σ Γ1) F' H' := x1.sub fun _ z => z.elim
      exact q F' H' v (rel.op x1 x2) (e.trans e2) (sh_O _ _ _ _ _ _ _ _ _ _ _ _ e (x3.avr rel))
    · exact q.elim
  · exact q.elim
section
variable {X : Cx} {c : Cf} {e a b : Expr} {es : List Expr} {pos : Pos}
def slotB (i : Nat) : Ev → Rs OV := fun Γ => match look Γ i with
  | some _ => .ok (.slot i) Γ
  | none => .bad
def datB (f : Ev → Rs D) : Ev → Rs OV := fun Γ => (f Γ).bind fun d Γ => .ok (.dat d) Γ
theorem db_of {f : Ev → Rs D} (h : DE X c e f) : DB X c e (datB f) := by
  refine PE.of h fun σ H Q ⟨F, Γ, r, q⟩ => ⟨F, Γ, r, ?_⟩
  refine (Po.bind (R := vrD c.M) q).imp fun v H' ⟨F', Γ', d, r1, e1, a1, q1⟩ => ?_
  exact q1 F' H' v r1 e1 a1
theorem look_some {M : Md} {σ0 : L2.St} {F H : Hp} {σ : L2.St} {Γ : Ev} (r : Rel M σ0 F H σ Γ) {i : Nat} {d : D} (h : look Γ i = some d) : ∃ v, σ[i]? = some (some v) := by
  unfold look at h
  split at h
  · rename_i d' h'
    obtain ⟨w, h1, h2⟩ := r.dat h'
    exact ⟨_, h1⟩
  · rename_i t o h'
    obtain ⟨a, h1, _⟩ := r.own h'
    exact ⟨_, h1⟩
  · cases h
theorem db_name {i : Nat} (h : PE X e (tVar i)) : DB X c e (slotB i) := by
  refine PE.of h fun σ H Q ⟨F, Γ, r, q⟩ => ?_
  unfold slotB at q
  split at q
  · rename_i d hd
    obtain ⟨v, hv⟩ := look_some r hd
    exact ⟨v, hv, q F H v r Ext.refl hv⟩
  · exact q.elim
/-- a name whose value is handed on: an own object becomes data -/
def nameE (i : Nat) : Ev → Rs D := fun Γ => match Γ[i]? with
  | some (.dat d) => .ok d Γ
  | some (.own none o) => .ok o.d (Γ.set i (.dat o.d))
  | _ => .bad
theorem Rel.drop {M : Md} {σ0 : L2.St} {F H : Hp} {σ : L2.St} {Γ : Ev} (r : Rel M σ0 F H σ Γ) {i : Nat} {g : Slot} (hg : ∀ s, σ[i]? = some s → SRel M σ0 F H s g) (no : ∀ t o, g ≠ .own t o) : Rel M σ0 F H σ (Γ.set i g) := by
  refine ⟨r.sub, by rw [List.length_set]; exact r.len, fun j s g' h1 h2 => ?_, fun j k t o t' o' a h1 h2 h3 h4 => ?_, r.tab⟩
  · by_cases z : i = j
    · subst z
      have hi : i < Γ.length := by
        rw [← r.len]
        exact (List.getElem?_eq_some_iff.mp h1).1
      rw [List.getElem?_set_self hi] at h2
      cases h2
      exact hg s h1
    · rw [List.getElem?_set_ne z] at h2
      exact r.slot j s g' h1 h2
  · have n1 : ∀ {j t o}, (Γ.set i g)[j]? = some (Slot.own t o) → Γ[j]? = some (Slot.own t o) := fun {j t o} h => by
      by_cases z : i = j
      · subst z
        have hi : i < Γ.length := by
          have q := (List.getElem?_eq_some_iff.mp h).1
          rwa [List.length_set] at q
        rw [List.getElem?_set_self hi] at h
        exact absurd (Option.some.inj h) (no t o)
      · rwa [List.getElem?_set_ne z] at h
    exact r.sep j k t o t' o' a (n1 h1) (n1 h2) h3 h4
theorem own_drop {σ : L2.St} {Γ : Ev} {i : Nat} {g : Slot} (no : ∀ t o, g ≠ .own t o) {a : Addr} (h : own σ (Γ.set i g) a) : own σ Γ a := by
  obtain ⟨j, t, o, h1, h2⟩ := h
  by_cases z : i = j
  · subst z
    have hi : i < Γ.length := by
      have q := (List.getElem?_eq_some_iff.mp h1).1
      rwa [List.length_set] at q
    rw [List.getElem?_set_self hi] at h1
    exact absurd (Option.some.inj h1) (no t o)
  · rw [List.getElem?_set_ne z] at h1
    exact ⟨j, t, o, h1, h2⟩
/-- the slot's own object goes into the frame, as it stands or locked -/
theorem Rel.name {M : Md} {σ0 : L2.St} {F H : Hp} {σ : L2.St} {Γ : Ev} {i : Nat} {o : O} {a : Addr} {u u' : HO} (r : Rel M σ0 F H σ Γ) (ho : Γ[i]? = some (.own none o)) (h1 : σ[i]? = some (some (.ref a))) (h2 : F a = none) (hu : H a = some u) (hd : Rep M (upd F a u') o.d (.ref a)) (ho' : NTb u') :
    Rel M σ0 (upd F a u') (upd H a u') σ (Γ.set i (.dat o.d)) ∧ Ext (Nv.own σ Γ) F H (Nv.own σ (Γ.set i (.dat o.d))) (upd F a u') (upd H a u') := by
  have h5 : Nv.own σ Γ a := ⟨i, none, o, ho, h1⟩
  have hX : ∀ u, H a = some u → NX u := fun u hu => r.ownNX h5 hu
  refine ⟨⟨fun b x e => ?_, by rw [List.length_set]; exact r.len, fun j s g g1 g2 => ?_, fun j k t o1 t' o2 b y1 y2 y3 y4 => ?_, r.tab.keep (Keep.both hX ho')⟩, ⟨Evl.Ex.new h2, fun b x n q nt => ?_, fun b x n z f _ => ?_, fun b z => .inl (own_drop (by intro t o; exact fun z => nomatch z) z), Keep.both hX ho'⟩⟩
  · by_cases z : b = a
    · subst z; rw [upd_same] at e ⊢; exact e
    · rw [upd_ne z] at e ⊢; exact r.sub _ _ e
  · by_cases z : i = j
    · subst z
      have hi : i < Γ.length := (List.getElem?_eq_some_iff.mp ho).1
      rw [List.getElem?_set_self hi] at g2
      cases g2
      rw [h1] at g1
      cases g1
      exact ⟨_, rfl, hd⟩
    · rw [List.getElem?_set_ne z] at g2
      have q1 := r.slot j s g g1 g2
      cases g with
      | un => trivial
      | dat d => obtain ⟨v, x1, x2⟩ := q1; exact ⟨v, x1, x2.mono (Evl.Ex.new h2)⟩
      | own t o2 =>
        obtain ⟨b, x1, x2, x3, x4⟩ := q1
        subst x1
        have nb : b ≠ a := fun e => by
          subst e
          exact z (r.sep i j _ _ _ _ b ho g2 h1 g1)
        exact ⟨b, rfl, by rw [upd_ne nb]; exact x2, x3.mono (Evl.Ex.new h2) (by rw [upd_ne nb]), x4⟩
  · have n1 : ∀ {j t} {o' : O}, (Γ.set i (.dat o.d))[j]? = some (Slot.own t o') → Γ[j]? = some (Slot.own t o') := fun {j t o'} h => by
      by_cases z : i = j
      · subst z
        have hi : i < Γ.length := (List.getElem?_eq_some_iff.mp ho).1
        rw [List.getElem?_set_self hi] at h
        cases h
      · rwa [List.getElem?_set_ne z] at h
    exact r.sep j k _ _ _ _ b (n1 y1) (n1 y2) y3 y4
  · rw [upd_ne (show b ≠ a from fun e => n (e ▸ h5))]
    exact q
  · rw [upd_ne (show b ≠ a from fun e => n (e ▸ h5))]
    exact f
theorem upd_id {H : Hp} {a : Addr} {u : HO} (h : H a = some u) : upd H a u = H := by
  funext b
  by_cases z : b = a
  · subst z; rw [upd_same, h]
  · rw [upd_ne z]
theorem de_name {i : Nat} (h : PE X e (tVar i)) : DE X c e (nameE i) := by
  refine PE.lk h fun σ H Q ⟨F, Γ, r, q⟩ => ?_
  unfold nameE at q
  split at q
  · rename_i d hd
    obtain ⟨v, hv, hr⟩ := r.dat hd
    exact ⟨v, hv, .inl (q F H v r Ext.refl hr)⟩
  · rename_i o ho
    obtain ⟨a, h1, h2, h3, h4, h5⟩ := r.own ho
    cases hD : o.isD with
    | false =>
      obtain ⟨u, hu⟩ := h3.some
      have hh : (upd F a u) a = H a := by rw [upd_same, hu]
      have hd : Rep c.M (upd F a u) o.d (.ref a) := (h3.mono (H' := upd F a u) (Evl.Ex.new h2) hh).rep (fun _ _ h => h) hD
      obtain ⟨r1, e1⟩ := r.name ho h1 h2 hu hd (h3.ntb hu)
      rw [upd_id hu] at r1 e1
      exact ⟨.ref a, h1, .inl (q (upd F a u) H (.ref a) r1 e1 hd)⟩
    | true =>
      obtain ⟨u, hu, mu, hr⟩ := h3.repL hD h2
      refine ⟨.ref a, h1, .inr ⟨a, u, hu, mu, fun od => ?_⟩⟩
      obtain ⟨r1, e1⟩ := r.name ho h1 h2 hu (hr od) trivial
      exact q _ _ (.ref a) r1 e1 (hr od)
  · exact q.elim
def nilA : Ev → Rs (List OV) := fun Γ => .ok [] Γ
def consA (f : Ev → Rs OV) (g : Ev → Rs (List OV)) : Ev → Rs (List OV) := fun Γ => (f Γ).bind fun o Γ => (g Γ).bind fun os Γ => .ok (o :: os) Γ
theorem da_nil : DA X c [] nilA := PA.of pa_nil fun σ H Q ⟨F, Γ, r, q⟩ => q F H [] r Ext.refl trivial
theorem da_cons {f : Ev → Rs OV} {g : Ev → Rs (List OV)} (h1 : DB X c e f) (h2 : DA X c es g) (hs : starEach (e :: es) X.env = (false, eval e X.env) :: starEach es X.env := by rfl) : DA X c (e :: es) (consA f g) := by
  refine PA.of (pa_cons h1 h2 hs) fun σ H Q ⟨F, Γ, r, q⟩ => ⟨F, Γ, r, ?_⟩
  refine (Po.bind (R := vrB c.M) q).imp fun v H1 ⟨F1, Γ1, o, r1, e1, a1, q1⟩ => ⟨F1, Γ1, r1, ?_⟩
  refine (Po.bind (R := vrA c.M) (Po.shift sh_A e1 q1)).imp fun vs H2 ⟨F2, Γ2, os, r2, e2, a2, q2⟩ => ?_
  exact q2 F2 H2 (v :: vs) r2 e2 ⟨a1.ext e2.ff, a2⟩
end
end Nv
-- N3
namespace Nv
open PySem PySem.Spec PyProof.Rows L2
open Evl (Ex)
section
variable {M : Md} {F H : Hp} {Q : VK}
abbrev Fin (M : Md) (F H : Hp) (av : AV) (Q : VK) : Prop := ∀ F' H' v, Ext noA F H noA F' H' → Ex F' H' → AVN M H F' H' v av → Q v H'
theorem fin_dat {d : D} {v : V} (sub : Ex F H) (h : Nv.Fin M F H (.dat d) Q) (r : Rep M F d v) : Q v H := h F H v Ext.refl sub r
theorem nof (sub : Ex F H) {p : Addr} (n : H p = none) : F p = none := by
  cases e : F p with
  | none => rfl
  | some o => rw [sub _ _ e] at n; cases n
theorem fin_own {p : Addr} {u : HO} {o : O} (sub : Ex F H) (h : Nv.Fin M F H (.own o) Q) (n : H p = none) (r : ORep M F (upd H p u) p o) : Q (.ref p) (upd H p u) :=
  h F (upd H p u) (.ref p) (Ext.new n) (sub.trans (Evl.Ex.new n)) ⟨p, rfl, n, nof sub n, r⟩
theorem fin_lst {p : Addr} {l : List D} {xs : List V} (sub : Ex F H) (h : Nv.Fin M F H (.own (.lst l)) Q) (n : H p = none) (r : Reps M F l xs) : Q (.ref p) (upd H p (.lst xs)) :=
  fin_own sub h n ⟨xs, upd_same, r⟩
theorem exNF (sub : Ex F H) {p : Addr} {u : HO} : Ex (upd F p u) (upd H p u) := fun b x e => by
  by_cases z : b = p
  · subst z; rw [upd_same] at e ⊢; exact e
  · rw [upd_ne z] at e ⊢; exact sub _ _ e
theorem fin_tup {p : Addr} {l : List D} {xs : List V} (sub : Ex F H) (h : Nv.Fin M F H (.dat (.tup l)) Q) (n : H p = none) (r : Reps M F l xs) : Q (.ref p) (upd H p (.tup xs)) :=
  h (upd F p (.tup xs)) (upd H p (.tup xs)) (.ref p) (Ext.newF n (nof sub n)) (exNF sub) (rep_tup.mpr ⟨p, xs, rfl, .inl upd_same, r.mono (Evl.Ex.new (nof sub n))⟩)
end
def O2 (M : Md) (r : R2) (g : D → D → Option AV) : Prop :=
  ∀ F H x y d1 d2 av Q, Ex F H → Rep1 M F H d1 x → Rep1 M F H d2 y → g d1 d2 = some av → Nv.Fin M F H av Q → r x y H Q
def op2R (g : D → D → Option AV) (o1 o2 : OV) (Γ : Ev) : Rs AV :=
  match o1.get Γ, o2.get Γ with
  | some a, some b => (match g a b with
    | some av => .ok av Γ
    | none => .bad)
  | _, _ => .bad
def op2 (g : D → D → Option AV) (fa fb : Ev → Rs OV) : Ev → Rs AV := fun Γ => (fa Γ).bind fun o1 Γ => (fb Γ).bind fun o2 Γ => op2R g o1 o2 Γ
theorem po_op2 {c : Cf} {r : R2} {g : D → D → Option AV} (hg : O2 c.M r g) {σ : L2.St} {F H F1 H1 : Hp} {Γ Γ1 : Ev} {o1 o2 : OV} {x y : V} {Q : VK} (rel : Rel c.M c.σ0 F1 H1 σ Γ1) (e : Ext (own σ Γ) F H (own σ Γ1) F1 H1)
    (h1 : ovR c.M σ F1 x o1) (h2 : ovR c.M σ F1 y o2) (q : Po c (vrO c.M) σ F H Γ (op2R g o1 o2 Γ1) Q) : r x y H1 Q := by
  unfold op2R at q
  split at q
  · rename_i a b e1 e2
    split at q
    · rename_i av e3
      refine hg F1 H1 x y a b av Q rel.sub (get_rep rel e1 h1) (get_rep rel e2 h2) e3 fun F' H' v x1 x2 x3 => ?_
      have e4 : Ext (own σ Γ1) F1 H1 (own σ Γ1) F' H' := x1.sub fun _ z => z.elim
      exact q F' H' v (rel.op x1 x2) (e.trans e4) (sh_O _ _ _ _ _ _ _ _ _ _ _ _ e (x3.avr rel))
    · exact q.elim
  · exact q.elim
theorem rd_op2 {c : Cf} {r : R2} {g : D → D → Option AV} (hg : O2 c.M r g) {fa fb : Ev → Rs OV} {σ : L2.St} {H : Hp} {Q : VK} (h : tR c (vrO c.M) (op2 g fa fb) σ H Q) : tOp r (tR c (vrB c.M) fa) (tR c (vrB c.M) fb) σ H Q := by
  obtain ⟨F, Γ, rel, q⟩ := h
  refine ⟨F, Γ, rel, ?_⟩
  refine (Po.bind (R := vrB c.M) q).imp fun x H1 ⟨F1, Γ1, o1, r1, e1, a1, q1⟩ => ⟨F1, Γ1, r1, ?_⟩
  refine (Po.bind (R := vrB c.M) (Po.shift sh_O e1 q1)).imp fun y H2 ⟨F2, Γ2, o2, r2, e2, a2, q2⟩ => ?_
  exact po_op2 hg r2 e2 (a1.ext e2.ff) a2 q2
def op1R (g : D → Option AV) (o : OV) (Γ : Ev) : Rs AV :=
  match o.get Γ with
  | some a => (match g a with
    | some av => .ok av Γ
    | none => .bad)
  | none => .bad
def op1 (g : D → Option AV) (f : Ev → Rs OV) : Ev → Rs AV := fun Γ => (f Γ).bind fun o Γ => op1R g o Γ
def O1 (M : Md) (r : V → Hp → VK → Prop) (g : D → Option AV) : Prop :=
  ∀ F H x d av Q, Ex F H → Rep1 M F H d x → g d = some av → Nv.Fin M F H av Q → r x H Q
theorem rd_op1 {c : Cf} {r : V → Hp → VK → Prop} {g : D → Option AV} (hg : O1 c.M r g) {f : Ev → Rs OV} {σ : L2.St} {H : Hp} {Q : VK} (h : tR c (vrO c.M) (op1 g f) σ H Q) : tUn r (tR c (vrB c.M) f) σ H Q := by
  obtain ⟨F, Γ, rel, q⟩ := h
  refine ⟨F, Γ, rel, ?_⟩
  refine (Po.bind (R := vrB c.M) q).imp fun x H1 ⟨F1, Γ1, o1, r1, e1, a1, q1⟩ => ?_
  have q2 : Po c (vrO c.M) σ F H Γ (op1R g o1 Γ1) Q := q1
  unfold op1R at q2
  split at q2
  · rename_i a ea
    split at q2
    · rename_i av e3
      refine hg F1 H1 x a av Q r1.sub (get_rep r1 ea a1) e3 fun F' H' v x1 x2 x3 => ?_
      have e4 : Ext (own σ Γ1) F1 H1 (own σ Γ1) F' H' := x1.sub fun _ z => z.elim
      exact q2 F' H' v (r1.op x1 x2) (e1.trans e4) (sh_O _ _ _ _ _ _ _ _ _ _ _ _ e1 (x3.avr r1))
    · exact q2.elim
  · exact q2.elim
def opA (g : List D → Option AV) (f : Ev → Rs (List OV)) : Ev → Rs AV := fun Γ => (f Γ).bind fun os Γ => opR g os Γ
theorem rd_opA {c : Cf} {r : List V → Hp → VK → Prop} {g : List D → Option AV} (hg : OpS c.M r g) {f : Ev → Rs (List OV)} {σ : L2.St} {H : Hp} {Q : VK} (h : tR c (vrO c.M) (opA g f) σ H Q) : tCB r (tR c (vrA c.M) f) σ H Q := by
  obtain ⟨F, Γ, rel, q⟩ := h
  refine ⟨F, Γ, rel, ?_⟩
  exact (Po.bind (R := vrA c.M) q).imp fun vs H1 ⟨F1, Γ1, os, r1, e1, a1, q1⟩ => po_op hg r1 e1 a1 q1
def tst (r : Rs AV) : Rs Bool := r.bind fun av Γ => match av with
  | .dat (.bl b) => .ok b Γ
  | _ => .bad
theorem po_tst {c : Cf} {σ : L2.St} {F H : Hp} {Γ : Ev} {r : Rs AV} {Q : Bool → Hp → Prop} (h : Po c vrT σ F H Γ (tst r) Q) : Po c (vrO c.M) σ F H Γ r fun x H' => ∃ k, x = .bl k ∧ Q k H' := by
  refine (Po.bind (R := vrO c.M) h).imp fun v H' ⟨F', Γ', av, r1, e1, a1, q1⟩ => ?_
  split at q1
  · rename_i b
    exact ⟨b, rep_bl.mp (show Rep c.M F' (.bl b) v from a1), q1 F' H' b r1 e1 rfl⟩
  · exact q1.elim
theorem dt_of {X : Cx} {c : Cf} {e : Expr} {t : TE} {f : Ev → Rs AV} (h : PT X e (tTest t)) (i : ∀ σ H Q, tR c (vrO c.M) f σ H Q → t σ H Q) : DT X c e (fun Γ => tst (f Γ)) :=
  PT.of h fun σ H Q ⟨F, Γ, r, q⟩ => i σ H _ ⟨F, Γ, r, po_tst q⟩
theorem dt_val {X : Cx} {c : Cf} {e : Expr} {f : Ev → Rs AV} (h : DO X c e f) (he : ∀ whole, isTrue e X.env whole = (do let v ← whole; standAt e.pos; holding [v] (truthy v)) := by intro _; rfl) : DT X c e (fun Γ => tst (f Γ)) :=
  dt_of (pt_val h he) fun _ _ _ q => q
section
variable {X : Cx} {c : Cf} {e a b d : Expr} {es : List Expr} {pos : Pos}
def datO (f : Ev → Rs D) : Ev → Rs AV := fun Γ => (f Γ).bind fun d Γ => .ok (.dat d) Γ
theorem do_of {f : Ev → Rs D} (h : DE X c e f) : DO X c e (datO f) := by
  refine PE.of h fun σ H Q ⟨F, Γ, r, q⟩ => ⟨F, Γ, r, ?_⟩
  exact (Po.bind (R := vrD c.M) q).imp fun v H' ⟨F', Γ', d, r1, e1, a1, q1⟩ => q1 F' H' v r1 e1 a1
def cst (d : D) : Ev → Rs D := fun Γ => .ok d Γ
theorem de_c {v : V} {d : D} (h : PE X e (tC v)) (hr : ∀ H, Rep c.M H d v) : DE X c e (cst d) :=
  PE.of h fun σ H Q ⟨F, Γ, r, q⟩ => q F H v r Ext.refl (hr F)
theorem de_int {i : Int} {j : Nat} {pos} : DE X c (.Constant (.int i) j pos) (cst (.int i)) := de_c pe_int fun _ => rep_int.mpr rfl
theorem de_bl {i : Bool} {j : Nat} {pos} : DE X c (.Constant (.bool i) j pos) (cst (.bl i)) := de_c pe_bl fun _ => rep_bl.mpr rfl
theorem de_non {j : Nat} {pos} : DE X c (.Constant .none j pos) (cst .non) := de_c pe_non fun _ => rep_non.mpr rfl
theorem de_str {x : Str} {j : Nat} {pos} (h : PyData.strOk x = true := by decide +kernel) : DE X c (.Constant (.str x) j pos) (cst (.str x)) := de_c pe_str fun _ => rep_str.mpr ⟨rfl, h⟩
theorem de_gint {x : Str} {i : Int} {u : Value} (hm : X.mg x = some u) (r : RelV (.int i) u) (hg : Gl X x := by rfl) (hd : (x == ("__debug__" : Str)) = false := by decide) : DE X c (.Name x pos) (cst (.int i)) := de_c (pe_glob hg hm r hd) fun _ => rep_int.mpr rfl
theorem do_op {op : Operator} {r : R2} {g : D → D → Option AV} {fa fb : Ev → Rs OV} (ho : OpR X (binaryOp op) r) (hg : O2 c.M r g) (ha : DB X c a fa) (hb : DB X c b fb) : DO X c (.BinOp a op b pos) (op2 g fa fb) :=
  PE.of (pe_op ho ha hb) fun _ _ _ q => rd_op2 hg q
theorem do_cmp {op : CmpOp} {r : R2} {g : D → D → Option AV} {fa fb : Ev → Rs OV} (ho : OpR X (compareOp op) r) (hg : O2 c.M r g) (ha : DB X c a fa) (hb : DB X c b fb) (hm : behindInMarks op b = false) : DO X c (.Compare a [op] [b] pos) (op2 g fa fb) :=
  PE.of (pe_cmpR ho ha hb hm) fun _ _ _ q => rd_op2 hg q
theorem dt_cmp {op : CmpOp} {r : R2} {g : D → D → Option AV} {fa fb : Ev → Rs OV} (ho : OpR X (compareOp op) r) (hg : O2 c.M r g) (ha : DB X c a fa) (hb : DB X c b fb) (hm : behindInMarks op b = false) : DT X c (.Compare a [op] [b] pos) (fun Γ => tst (op2 g fa fb Γ)) :=
  dt_of (pt_cmpR ho ha hb hm) fun _ _ _ q => rd_op2 hg q
theorem do_ix {r : R2} {g : D → D → Option AV} {fa fb : Ev → Rs OV} (ho : IxR X r) (hg : O2 c.M r g) (ha : DB X c a fa) (hb : DB X c b fb) (hs : PlainIx b := by intro _ _; rfl) : DO X c (.Subscript a b pos) (op2 g fa fb) :=
  PE.of (pe_ix ho ha hb hs) fun _ _ _ q => rd_op2 hg q
theorem do_callB {id : String} {x : Str} {p : Pos} {r : List V → Hp → VK → Prop} {g : List D → Option AV} {f : Ev → Rs (List OV)} (hc : CallR X (.builtin id) r) (hO : OpS c.M r g) (hm : X.mg x = none) (ha : DA X c (e :: es) f) (hg : Gl X x := by rfl) (hv : bootBuiltins x = some (.builtin id) := by decide +kernel)
    (hn : x ≠ "__name__" := by decide) (hdb : (x == ("__debug__" : Str)) = false := by decide) (he : starEach (e :: es) X.env = (false, eval e X.env) :: starEach es X.env := by rfl) (hpl : (backTo pos (starEach es X.env)).any (·.1) = false := by rfl) : DO X c (.Call (.Name x p) (e :: es) [] pos) (opA g f) :=
  PE.of (pe_callB hc hg hm hv ha hn hdb he hpl) fun _ _ _ q => rd_opA hO q
theorem do_callTy {T : String} {x : Str} {p : Pos} {r : List V → Hp → VK → Prop} {g : List D → Option AV} {f : Ev → Rs (List OV)} (hc : CallR X (.type T) r) (hO : OpS c.M r g) (hm : X.mg x = none) (ha : DA X c (e :: es) f) (hg : Gl X x := by rfl) (hv : bootBuiltins x = some (.type T) := by decide +kernel)
    (hn : x ≠ "__name__" := by decide) (hdb : (x == ("__debug__" : Str)) = false := by decide) (he : starEach (e :: es) X.env = (false, eval e X.env) :: starEach es X.env := by rfl) (hpl : (backTo pos (starEach es X.env)).any (·.1) = false := by rfl) : DO X c (.Call (.Name x p) (e :: es) [] pos) (opA g f) :=
  PE.of (pe_callTy hc hg hm hv ha hn hdb he hpl) fun _ _ _ q => rd_opA hO q
end
end Nv
-- N4
namespace Nv
open PySem PySem.Spec PyProof.Rows L2
open Evl (Ex)
section
variable {M : Md} {F H : Hp} {v : V}
theorem r1_non (h : Rep1 M F H .non v) : v = .non := rep_non.mp (show Rep M F .non v from h)
theorem r1_bl {b : Bool} (h : Rep1 M F H (.bl b) v) : v = .bl b := rep_bl.mp (show Rep M F (.bl b) v from h)
theorem r1_int {b : Int} (h : Rep1 M F H (.int b) v) : v = .int b := rep_int.mp (show Rep M F (.int b) v from h)
theorem r1_str {b : Str} (h : Rep1 M F H (.str b) v) : v = .str b ∧ PyData.strOk b = true := rep_str.mp (show Rep M F (.str b) v from h)
theorem r1_tup {l : List D} (h : Rep1 M F H (.tup l) v) : ∃ a xs, v = .ref a ∧ SqT M.K F a xs ∧ Reps M F l xs := by
  obtain ⟨a, xs, h1, h2, h3⟩ := rep_tup.mp (show Rep M F (.tup l) v from h)
  exact ⟨a, xs, h1, h2.sq h3, h3⟩
theorem r1_tupS {l : List D} (h : Rep1 M F H (.tup l) v) (n : l ≠ []) : ∃ a xs, v = .ref a ∧ F a = some (.tup xs) ∧ Reps M F l xs := by
  obtain ⟨a, xs, h1, h2, h3⟩ := rep_tup.mp (show Rep M F (.tup l) v from h)
  rcases h2 with h2 | ⟨z, _⟩
  · exact ⟨a, xs, h1, h2, h3⟩
  · exact absurd z n
theorem r1_fz {l : List D} (h : Rep1 M F H (.fz l) v) : ∃ a xs, v = .ref a ∧ SqL M.K F a xs ∧ Reps M F l xs := rep_fz.mp (show Rep M F (.fz l) v from h)
theorem r1_lst {l : List D} (h : Rep1 M F H (.lst l) v) : ∃ a xs, v = .ref a ∧ H a = some (.lst xs) ∧ Reps M F l xs := h
end
def mulOk (i j : Int) : Bool := decide (-(2 ^ 64) < i ∧ i < 2 ^ 64) || decide (-(2 ^ 64) < j ∧ j < 2 ^ 64) || decide (i.natAbs.log2 + j.natAbs.log2 < 1000000)
theorem strOk_append {x y : Str} (hx : PyData.strOk x = true) (hy : PyData.strOk y = true) : PyData.strOk (x ++ y) = true := by
  show ((x ++ y).cps).all _ = true
  have e : (x ++ y).cps = x.cps ++ y.cps := rfl
  rw [e, Array.all_append, Bool.and_eq_true]
  exact ⟨hx, hy⟩
def gAdd : D → D → Option AV
  | .int i, .int j => some (.dat (.int (i + j)))
  | .str x, .str y => if x.length + y.length ≤ sizeLine then some (.dat (.str (x ++ y))) else none
  | .lst x, .lst y => if x.length + y.length ≤ sizeLine then some (.own (.lst (x ++ y))) else none
  | .tup x, .tup y => if x.length + y.length ≤ sizeLine then some (.dat (.tup (x ++ y))) else none
  | _, _ => none
def rAddA (K : PySem.W.Frag) : R2 := fun x y H Q => (((∃ i j, x = .int i ∧ y = .int j ∧ Q (.int (i + j)) H) ∨ (∃ i j, x = .str i ∧ y = .str j ∧ i.length + j.length ≤ sizeLine ∧ Q (.str (i ++ j)) H)) ∨ rCat x y H Q) ∨ rCatA K x y H Q
theorem op_addA {X : Cx} : OpR X (binaryOp .Add) (rAddA X.K) := ((op_add.or op_add_str).or op_cat).or op_catA
theorem o2_add {M : Md} : O2 M (rAddA M.K) gAdd := by
  intro F H x y d1 d2 av Q sub r1 r2 e h
  unfold gAdd at e
  split at e
  · cases e
    rename_i i j
    exact .inl (.inl (.inl ⟨i, j, r1_int r1, r1_int r2, fin_dat sub h (rep_int.mpr rfl)⟩))
  · rename_i z w
    split at e
    · rename_i hl
      cases e
      obtain ⟨rfl, h1⟩ := r1_str r1
      obtain ⟨rfl, h2⟩ := r1_str r2
      exact .inl (.inl (.inr ⟨z, w, rfl, rfl, hl, fin_dat sub h (rep_str.mpr ⟨rfl, strOk_append h1 h2⟩)⟩))
    · cases e
  · rename_i l m
    split at e
    · rename_i hl
      cases e
      obtain ⟨a, xs, rfl, ha, hx⟩ := r1
      obtain ⟨b, ys, rfl, hb, hy⟩ := r2
      refine .inl (.inr ⟨a, b, xs, ys, rfl, rfl, ha, hb, ?_, fun p n => fin_lst sub h n (hx.append hy)⟩)
      rw [hx.length, hy.length]; exact hl
    · cases e
  · rename_i l m
    split at e
    · rename_i hl
      cases e
      obtain ⟨a, xs, rfl, ha, hx⟩ := r1_tup r1
      obtain ⟨b, ys, rfl, hb, hy⟩ := r1_tup r2
      have nil_of : ∀ {l : List D} {xs : List V}, Reps M F l xs → xs = [] → l = [] := fun {l xs} h z => by
        have q := h.length
        rw [z] at q
        exact List.length_eq_zero_iff.mp q.symm
      refine .inr ⟨a, b, xs, ys, rfl, rfl, Evl.ex_t sub ha, Evl.ex_t sub hb, ?_, fun z => ?_, fun _ z => ?_, fun _ _ p n => fin_tup sub h n (hx.append hy)⟩
      · rw [hx.length, hy.length]; exact hl
      · have e0 := nil_of hx z
        subst e0
        rw [List.nil_append] at h
        exact fin_dat sub h r2
      · have e0 := nil_of hy z
        subst e0
        rw [List.append_nil] at h
        exact fin_dat sub h r1
    · cases e
  · cases e
/-- two ints, guarded -/
def gI (ok : Int → Int → Bool) (f : Int → Int → D) : D → D → Option AV
  | .int i, .int j => if ok i j = true then some (.dat (f i j)) else none
  | _, _ => none
theorem o2_I {M : Md} {r : R2} {ok : Int → Int → Bool} {f : Int → Int → D} {w : Int → Int → V} (hf : ∀ F i j, Rep M F (f i j) (w i j)) (hr : ∀ i j H Q, ok i j = true → Q (w i j) H → r (.int i) (.int j) H Q) : O2 M r (gI ok f) := by
  intro F H x y d1 d2 av Q sub r1 r2 e h
  unfold gI at e
  split at e
  · rename_i i j
    split at e
    · rename_i hok
      cases e
      cases r1_int r1
      cases r1_int r2
      exact hr i j H Q hok (fin_dat sub h (hf F i j))
    · cases e
  · cases e
def okT : Int → Int → Bool := fun _ _ => true
abbrev gSub := gI okT fun i j => .int (i - j)
abbrev gMul := gI mulOk fun i j => .int (i * j)
abbrev gMod := gI (fun _ j => decide (0 < j)) fun i j => .int (i % j)
abbrev gFdv := gI (fun _ j => decide (0 < j) && decide (j.natAbs.log2 < 9000)) fun i j => .int (i / j)
abbrev gPow := gI (fun i j => decide (0 ≤ j ∧ j ≤ 1000000 ∧ i.natAbs < 2 ^ 64)) fun i j => .int (i ^ j.toNat)
theorem ri (M : Md) (F : Hp) (i : Int) : Rep M F (.int i) (.int i) := rep_int.mpr rfl
theorem rb (M : Md) (F : Hp) (i : Bool) : Rep M F (.bl i) (.bl i) := rep_bl.mpr rfl
def rMulA : R2 := fun x y H Q => rI CMul (fun i j => .int (i * j)) x y H Q ∨ rI CMulW (fun i j => .int (i * j)) x y H Q
theorem op_mulA {X : Cx} : OpR X (binaryOp .Mult) rMulA := op_mul.or op_mulW
section
variable {M : Md}
theorem o2_sub : O2 M (rI0 fun i j => .int (i - j)) gSub := o2_I (fun F i j => ri M F _) fun i j H Q _ q => ⟨i, j, rfl, rfl, q⟩
theorem o2_mul : O2 M rMulA gMul := o2_I (fun F i j => ri M F _) fun i j H Q ok q => by
  unfold mulOk at ok
  simp only [Bool.or_eq_true, decide_eq_true_eq] at ok
  rcases ok with (ok | ok) | ok
  · exact .inl ⟨i, j, rfl, rfl, .inl ok, q⟩
  · exact .inl ⟨i, j, rfl, rfl, .inr ok, q⟩
  · exact .inr ⟨i, j, rfl, rfl, ok, q⟩
theorem o2_mod : O2 M (rI (fun _ j => 0 < j) fun i j => .int (i % j)) gMod := o2_I (fun F i j => ri M F _) fun i j H Q ok q => ⟨i, j, rfl, rfl, of_decide_eq_true ok, q⟩
theorem o2_fdv : O2 M (rI CDivW fun i j => .int (i / j)) gFdv := o2_I (fun F i j => ri M F _) fun i j H Q ok q => by
  rw [Bool.and_eq_true] at ok
  exact ⟨i, j, rfl, rfl, ⟨of_decide_eq_true ok.1, of_decide_eq_true ok.2⟩, q⟩
theorem o2_pow : O2 M (rI CPow fun i j => .int (i ^ j.toNat)) gPow := o2_I (fun F i j => ri M F _) fun i j H Q ok q => ⟨i, j, rfl, rfl, (show CPow i j from of_decide_eq_true (p := 0 ≤ j ∧ j ≤ 1000000 ∧ i.natAbs < 2 ^ 64) ok), q⟩
abbrev gLt := gI okT fun i j => .bl (decide (i < j))
abbrev gLe := gI okT fun i j => .bl (decide (i ≤ j))
abbrev gGt := gI okT fun i j => .bl (decide (j < i))
abbrev gGe := gI okT fun i j => .bl (decide (j ≤ i))
theorem o2_lt : O2 M (rI0 fun i j => .bl (decide (i < j))) gLt := o2_I (fun F i j => rb M F _) fun i j H Q _ q => ⟨i, j, rfl, rfl, q⟩
theorem o2_le : O2 M (rI0 fun i j => .bl (decide (i ≤ j))) gLe := o2_I (fun F i j => rb M F _) fun i j H Q _ q => ⟨i, j, rfl, rfl, q⟩
theorem o2_gt : O2 M (rI0 fun i j => .bl (decide (j < i))) gGt := o2_I (fun F i j => rb M F _) fun i j H Q _ q => ⟨i, j, rfl, rfl, q⟩
theorem o2_ge : O2 M (rI0 fun i j => .bl (decide (j ≤ i))) gGe := o2_I (fun F i j => rb M F _) fun i j H Q _ q => ⟨i, j, rfl, rfl, q⟩
end
mutual
/-- as the library's data, for == ; dicts and instances are none of it -/
def D.py : D → PyData
  | .non => .none
  | .bl b => .bool b
  | .int i => .int i
  | .str s => .str s
  | .tup l => .tuple (D.pys l)
  | .lst l => .list (D.pys l)
  | _ => .dict []
def D.pys : List D → List PyData
  | [] => []
  | d :: l => d.py :: D.pys l
end
mutual
/-- the depth, none where == is not told -/
def D.eqd : D → Option Nat
  | .non | .bl _ | .int _ | .str _ => some 0
  | .tup l => (D.eqds l).map (· + 1)
  | .lst l => (D.eqds l).map (· + 1)
  | _ => none
def D.eqds : List D → Option Nat
  | [] => some 0
  | d :: l => match d.eqd, D.eqds l with
    | some a, some b => some (max a b)
    | _, _ => none
end
/-- == is told of it: plain, not too deep -/
def D.eqs (d : D) : Bool := match d.eqd with
  | some n => decide (n ≤ 64)
  | none => false
mutual
theorem py_dp {M : Md} {F : Hp} : ∀ {d : D} {v : V} {n : Nat}, Rep M F d v → d.eqd = some n → Dp M.K F v d.py ∧ d.py.canLay0 = true ∧ d.py.depth = n
  | .non, _, _, h, e => by
    cases rep_non.mp h; cases e
    exact ⟨.non, rfl, rfl⟩
  | .bl b, _, _, h, e => by
    cases rep_bl.mp h; cases e
    exact ⟨.bl b, rfl, rfl⟩
  | .int i, _, _, h, e => by
    cases rep_int.mp h; cases e
    exact ⟨.int i, rfl, rfl⟩
  | .str s, _, _, h, e => by
    obtain ⟨rfl, h2⟩ := rep_str.mp h
    cases e
    refine ⟨.str s, ?_, rfl⟩
    unfold D.py PyData.canLay0
    exact h2
  | .tup l, _, n, h, e => by
    obtain ⟨a, xs, rfl, h1, h2⟩ := rep_tup.mp h
    unfold D.eqd at e
    cases q : D.eqds l with
    | none => rw [q] at e; cases e
    | some m =>
      rw [q] at e
      cases e
      obtain ⟨x1, x2, x3⟩ := pys_dp h2 q
      refine ⟨.tup (h1.sq h2) x1, ?_, ?_⟩
      · unfold D.py PyData.canLay0; exact x2
      · unfold D.py PyData.depth; rw [x3]
  | .lst l, _, n, h, e => by
    obtain ⟨a, xs, rfl, h1, h2⟩ := rep_lst.mp h
    unfold D.eqd at e
    cases q : D.eqds l with
    | none => rw [q] at e; cases e
    | some m =>
      rw [q] at e
      cases e
      obtain ⟨x1, x2, x3⟩ := pys_dp h2 q
      refine ⟨.lst (SqL.of h1) x1, ?_, ?_⟩
      · unfold D.py PyData.canLay0; exact x2
      · unfold D.py PyData.depth; rw [x3]
  | .fz l, _, _, _, e => by cases e
  | .dct l, _, _, _, e => by cases e
  | .dtt l, _, _, _, e => by cases e
  | .ins _ l, _, _, _, e => by cases e
  | .ty _, _, _, _, e => by cases e
  | .cls _, _, _, _, e => by cases e
theorem pys_dp {M : Md} {F : Hp} : ∀ {l : List D} {xs : List V} {n : Nat}, Reps M F l xs → D.eqds l = some n → DpAll M.K F xs (D.pys l) ∧ PyData.canLayAll0 (D.pys l) = true ∧ PyData.depthAll (D.pys l) = n
  | [], _, _, h, e => by
    cases reps_nil.mp h; cases e
    exact ⟨.nil, rfl, rfl⟩
  | d :: l, _, n, h, e => by
    obtain ⟨v, r, rfl, h1, h2⟩ := reps_cons.mp h
    unfold D.eqds at e
    cases q1 : d.eqd with
    | none => rw [q1] at e; cases e
    | some a =>
      cases q2 : D.eqds l with
      | none => rw [q1, q2] at e; cases e
      | some b =>
        rw [q1, q2] at e
        cases e
        obtain ⟨x1, x2, x3⟩ := py_dp h1 q1
        obtain ⟨y1, y2, y3⟩ := pys_dp h2 q2
        refine ⟨.cons x1 y1, ?_, ?_⟩
        · unfold D.pys PyData.canLayAll0; rw [x2, y2]; rfl
        · unfold D.pys PyData.depthAll; rw [x3, y3]
end
theorem py_shaped {M : Md} {F : Hp} {d : D} {v : V} (h : Rep M F d v) (e : d.eqs = true) : Dp M.K F v d.py ∧ SeqAt.shaped d.py = true := by
  unfold D.eqs at e
  cases q : d.eqd with
  | none => rw [q] at e; cases e
  | some n =>
    rw [q] at e
    obtain ⟨h1, h2, h3⟩ := py_dp h q
    refine ⟨h1, ?_⟩
    unfold SeqAt.shaped
    rw [h2, Bool.true_and, h3]
    exact e
theorem eqs_nd {d : D} (h : d.eqs = true) : d.isD = false := by
  cases d <;> first | rfl | cases h
/-- == of plain data -/
def D.eq (a b : D) : Bool := PyData.eqv a.py b.py
def gEq : D → D → Option AV := fun a b => if (a.eqs && b.eqs) = true then some (.dat (.bl (a.eq b))) else none
def gNe : D → D → Option AV := fun a b => if (a.eqs && b.eqs) = true then some (.dat (.bl (!a.eq b))) else none
theorem o2_eq {M : Md} : O2 M (rEqD M.K) gEq := by
  intro F H x y d1 d2 av Q sub r1 r2 e h
  unfold gEq at e
  split at e
  · rename_i hs
    rw [Bool.and_eq_true] at hs
    cases e
    obtain ⟨p1, s1⟩ := py_shaped (r1.rep sub (eqs_nd hs.1)) hs.1
    obtain ⟨p2, s2⟩ := py_shaped (r2.rep sub (eqs_nd hs.2)) hs.2
    exact ⟨_, _, p1, p2, s1, s2, fin_dat sub h (rep_bl.mpr rfl)⟩
  · cases e
theorem o2_ne {M : Md} : O2 M (rNeD M.K) gNe := by
  intro F H x y d1 d2 av Q sub r1 r2 e h
  unfold gNe at e
  split at e
  · rename_i hs
    rw [Bool.and_eq_true] at hs
    cases e
    obtain ⟨p1, s1⟩ := py_shaped (r1.rep sub (eqs_nd hs.1)) hs.1
    obtain ⟨p2, s2⟩ := py_shaped (r2.rep sub (eqs_nd hs.2)) hs.2
    exact ⟨_, _, p1, p2, s1, s2, fin_dat sub h (rep_bl.mpr rfl)⟩
  · cases e
/-- is None -/
def D.isN : D → Bool
  | .non => true
  | .exv _ d => d.isN
  | _ => false
theorem rep_isN0 {M : Md} {F : Hp} : ∀ {d : D} {v : V}, Rep M F d v → decide (v = .non) = d.isN
  | .exv w d, v, h => by
    have h2 := (rep_exv.mp h).2
    unfold D.isN
    exact rep_isN0 h2
  | .fnv f F b, v, h => by obtain ⟨rfl, _⟩ := rep_fnv.mp h; rfl
  | .non, v, h => by cases rep_non.mp h; rfl
  | .bl b, v, h => by cases rep_bl.mp h; rfl
  | .int b, v, h => by cases rep_int.mp h; rfl
  | .str b, v, h => by obtain ⟨rfl, _⟩ := rep_str.mp h; rfl
  | .tup l, v, h => by obtain ⟨a, xs, rfl, _⟩ := rep_tup.mp h; rfl
  | .fz l, v, h => by obtain ⟨a, xs, rfl, _⟩ := rep_fz.mp h; rfl
  | .lst l, v, h => by obtain ⟨a, xs, rfl, _⟩ := rep_lst.mp h; rfl
  | .dct l, v, h => by obtain ⟨a, kvs, rfl, _⟩ := rep_dct.mp h; rfl
  | .dtt l, v, h => by obtain ⟨a, kvs, rfl, _⟩ := rep_dtt.mp h; rfl
  | .ins c l, v, h => by obtain ⟨a, C, dx, fs, rfl, _⟩ := rep_ins.mp h; rfl
  | .ty n, v, h => by unfold Rep at h; subst h; rfl
  | .cls n, v, h => by unfold Rep at h; obtain ⟨C, rfl, _⟩ := h; rfl
  | .exn n l, v, h => by obtain ⟨a, C, dx, fs, rfl, _⟩ := rep_exn.mp h; rfl
  | .opq a, v, h => by unfold Rep at h; subst h; rfl
termination_by d => sizeOf d
theorem rep_isN {M : Md} {F H : Hp} {d : D} {v : V} (h : Rep1 M F H d v) : decide (v = .non) = d.isN := by
  cases d with
  | fnv f F b => obtain ⟨rfl, _⟩ := rep_fnv.mp (show Rep M _ (.fnv f F b) v from h); rfl
  | exv w d => exact rep_isN0 (show Rep M F (.exv w d) v from h)
  | non => cases rep_non.mp (show Rep M F .non v from h); rfl
  | bl b => cases rep_bl.mp (show Rep M F (.bl b) v from h); rfl
  | int b => cases rep_int.mp (show Rep M F (.int b) v from h); rfl
  | str b => obtain ⟨rfl, _⟩ := rep_str.mp (show Rep M F (.str b) v from h); rfl
  | tup l => obtain ⟨a, xs, rfl, _⟩ := rep_tup.mp (show Rep M F (.tup l) v from h); rfl
  | fz l => obtain ⟨a, xs, rfl, _⟩ := rep_fz.mp (show Rep M F (.fz l) v from h); rfl
  | lst l => obtain ⟨a, xs, rfl, _⟩ := h; rfl
  | dct l => obtain ⟨a, kvs, rfl, _⟩ := h; rfl
  | dtt l => obtain ⟨a, kvs, rfl, _⟩ := h; rfl
  | ins c l => obtain ⟨a, C, dx, fs, rfl, _⟩ := h; rfl
  | ty n =>
    have h' : v = .ty n := by
      have q : Rep M F (.ty n) v := h
      unfold Rep at q
      exact q
    subst h'; rfl
  | cls n =>
    have h' : ∃ C, v = .ref C ∧ M.mg n = some (.ref C) := by
      have q : Rep M F (.cls n) v := h
      unfold Rep at q
      exact q
    obtain ⟨C, rfl, _⟩ := h'; rfl
  | exn n l =>
    obtain ⟨a, C, dx, fs, rfl, _⟩ := rep_exn.mp (show Rep M F (.exn n l) v from h); rfl
  | opq a =>
    have h' : v = .ref a := by
      have q : Rep M F (.opq a) v := h
      unfold Rep at q
      exact q
    subst h'; rfl
def gIs : D → D → Option AV := fun a b => match b with
  | .non => some (.dat (.bl a.isN))
  | _ => none
def gIsn : D → D → Option AV := fun a b => match b with
  | .non => some (.dat (.bl (!a.isN)))
  | _ => none
theorem o2_is {M : Md} : O2 M (fun x y H Q => y = .non ∧ Q (.bl (decide (x = .non))) H) gIs := by
  intro F H x y d1 d2 av Q sub r1 r2 e h
  unfold gIs at e
  split at e
  · cases e
    refine ⟨r1_non r2, ?_⟩
    rw [rep_isN r1]
    exact fin_dat sub h (rep_bl.mpr rfl)
  · cases e
theorem o2_isn {M : Md} : O2 M (fun x y H Q => y = .non ∧ Q (.bl (!decide (x = .non))) H) gIsn := by
  intro F H x y d1 d2 av Q sub r1 r2 e h
  unfold gIsn at e
  split at e
  · cases e
    refine ⟨r1_non r2, ?_⟩
    rw [rep_isN r1]
    exact fin_dat sub h (rep_bl.mpr rfl)
  · cases e
end Nv
-- N5
namespace Nv
open PySem PySem.Spec PyProof.Rows L2
open Evl (Ex)
def D.key : D → Option Key
  | .int i => some (.inl i)
  | .str s => some (.inr s)
  | _ => none
def keysOf : List D → Option (List Key)
  | [] => some []
  | d :: l => match d.key, keysOf l with
    | some k, some r => some (k :: r)
    | _, _ => none
def D.keyT : D → Option (List Key)
  | .tup (d :: l) => keysOf (d :: l)
  | _ => none
theorem key_kD {d : D} {k : Key} (h : d.key = some k) : d = kD k := by
  unfold D.key at h
  split at h <;> cases h <;> rfl
theorem keys_kD : ∀ {l : List D} {ks : List Key}, keysOf l = some ks → l = ks.map kD
  | [], _, h => by cases h; rfl
  | d :: l, ks, h => by
    unfold keysOf at h
    split at h
    · rename_i k r h1 h2
      cases h
      rw [List.map_cons, ← key_kD h1, ← keys_kD h2]
    · cases h
theorem keyT_kD {d : D} {ks : List Key} (h : d.keyT = some ks) : ks ≠ [] ∧ d = .tup (ks.map kD) := by
  unfold D.keyT at h
  split at h
  · rename_i d l
    have e := keys_kD h
    refine ⟨fun z => ?_, by rw [e]⟩
    rw [z] at e; cases e
  · cases h
theorem key_eq (q k : Key) : (kD q).eq (kD k) = decide (q = k) := by
  cases q with
  | inl i =>
    cases k with
    | inl j =>
      show PyData.eqv (.int i) (.int j) = _
      unfold PyData.eqv
      rw [Bool.eq_iff_iff]; simp
    | inr y =>
      show PyData.eqv (.int i) (.str y) = _
      unfold PyData.eqv
      rw [Bool.eq_iff_iff]; simp
  | inr x =>
    cases k with
    | inl j =>
      show PyData.eqv (.str x) (.int j) = _
      unfold PyData.eqv
      rw [Bool.eq_iff_iff]; simp
    | inr y =>
      show PyData.eqv (.str x) (.str y) = _
      unfold PyData.eqv
      rw [Bool.eq_iff_iff]; simp
theorem keys_eq : ∀ q k : List Key, PyData.eqvAll (D.pys (q.map kD)) (D.pys (k.map kD)) = decide (q = k)
  | [], [] => rfl
  | [], _ :: _ => by
    unfold List.map D.pys PyData.eqvAll
    rw [Bool.eq_iff_iff]; simp
  | _ :: _, [] => by
    unfold List.map D.pys PyData.eqvAll
    rw [Bool.eq_iff_iff]; simp
  | a :: q, b :: k => by
    have h1 := key_eq a b
    have h2 := keys_eq q k
    unfold D.eq at h1
    show PyData.eqvAll ((kD a).py :: D.pys (q.map kD)) ((kD b).py :: D.pys (k.map kD)) = _
    unfold PyData.eqvAll
    rw [h1, h2, Bool.eq_iff_iff]
    simp
theorem keyT_eq (q k : List Key) : (D.tup (q.map kD)).eq (.tup (k.map kD)) = decide (q = k) := by
  rw [← keys_eq]
  show PyData.eqv (.tuple (D.pys (q.map kD))) (.tuple (D.pys (k.map kD))) = _
  unfold PyData.eqv
  rfl
def dlook (l : List (D × D)) (k : D) : Option D := (l.find? fun p => p.1.eq k).map (·.2)
def dput (l : List (D × D)) (k v : D) : List (D × D) := if (l.any fun p => p.1.eq k) = true then l.map (fun p => if p.1.eq k = true then (p.1, v) else p) else l ++ [(k, v)]
def ddrop (l : List (D × D)) (k : D) : List (D × D) := l.filter fun p => !p.1.eq k
def RO (M : Md) (F : Hp) : Option D → Option V → Prop
  | some d, some v => Rep M F d v
  | none, none => True
  | _, _ => False
section
variable {M : Md} {F : Hp}
theorem repK_nil {xs : List (Key × V)} : RepK M F [] xs ↔ xs = [] := by unfold RepK; exact Iff.rfl
theorem repK_cons {p : D × D} {l : List (D × D)} {xs : List (Key × V)} : RepK M F (p :: l) xs ↔ ∃ q v r, xs = (q, v) :: r ∧ (p.1 = kD q ∧ kOk q = true) ∧ Rep M F p.2 v ∧ RepK M F l r := by rw [RepK]
theorem repT_nil {xs : List (List Key × V)} : RepT M F [] xs ↔ xs = [] := by unfold RepT; exact Iff.rfl
theorem repT_cons {p : D × D} {l : List (D × D)} {xs : List (List Key × V)} : RepT M F (p :: l) xs ↔ ∃ q v r, xs = (q, v) :: r ∧ (p.1 = .tup (q.map kD) ∧ q.all kOk = true) ∧ Rep M F p.2 v ∧ RepT M F l r := by rw [RepT]
theorem RepK.length : ∀ {l : List (D × D)} {xs : List (Key × V)}, RepK M F l xs → xs.length = l.length
  | [], _, h => by cases repK_nil.mp h; rfl
  | p :: l, _, h => by
    obtain ⟨q, v, r, rfl, _, _, h3⟩ := repK_cons.mp h
    rw [List.length_cons, List.length_cons, RepK.length h3]
theorem RepT.length : ∀ {l : List (D × D)} {xs : List (List Key × V)}, RepT M F l xs → xs.length = l.length
  | [], _, h => by cases repT_nil.mp h; rfl
  | p :: l, _, h => by
    obtain ⟨q, v, r, rfl, _, _, h3⟩ := repT_cons.mp h
    rw [List.length_cons, List.length_cons, RepT.length h3]
theorem dlook_cons (p : D × D) (l : List (D × D)) (k : D) : dlook (p :: l) k = if p.1.eq k = true then some p.2 else dlook l k := by
  unfold dlook
  rw [List.find?_cons]
  cases h : p.1.eq k with
  | true => rfl
  | false => rfl
theorem RepK.look : ∀ {l : List (D × D)} {xs : List (Key × V)} (k : Key), RepK M F l xs → RO M F (dlook l (kD k)) (valV xs k)
  | [], _, k, h => by cases repK_nil.mp h; trivial
  | p :: l, _, k, h => by
    obtain ⟨q, v, r, rfl, ⟨h1, _⟩, h2, h3⟩ := repK_cons.mp h
    rw [dlook_cons, h1, key_eq]
    by_cases e : q = k
    · rw [decide_eq_true e, if_pos rfl, valV_pos e]; exact h2
    · rw [decide_eq_false e, if_neg (by decide), valV_neg e]; exact RepK.look k h3
theorem RepT.look : ∀ {l : List (D × D)} {xs : List (List Key × V)} (k : List Key), RepT M F l xs → RO M F (dlook l (.tup (k.map kD))) (valV xs k)
  | [], _, k, h => by cases repT_nil.mp h; trivial
  | p :: l, _, k, h => by
    obtain ⟨q, v, r, rfl, ⟨h1, _⟩, h2, h3⟩ := repT_cons.mp h
    rw [dlook_cons, h1, keyT_eq]
    by_cases e : q = k
    · rw [decide_eq_true e, if_pos rfl, valV_pos e]; exact h2
    · rw [decide_eq_false e, if_neg (by decide), valV_neg e]; exact RepT.look k h3
theorem RepK.append : ∀ {l m : List (D × D)} {xs ys : List (Key × V)}, RepK M F l xs → RepK M F m ys → RepK M F (l ++ m) (xs ++ ys)
  | [], _, _, _, h, t => by cases repK_nil.mp h; exact t
  | p :: l, _, _, _, h, t => by
    obtain ⟨q, v, r, rfl, h1, h2, h3⟩ := repK_cons.mp h
    exact repK_cons.mpr ⟨q, v, _, rfl, h1, h2, RepK.append h3 t⟩
theorem RepT.append : ∀ {l m : List (D × D)} {xs ys : List (List Key × V)}, RepT M F l xs → RepT M F m ys → RepT M F (l ++ m) (xs ++ ys)
  | [], _, _, _, h, t => by cases repT_nil.mp h; exact t
  | p :: l, _, _, _, h, t => by
    obtain ⟨q, v, r, rfl, h1, h2, h3⟩ := repT_cons.mp h
    exact repT_cons.mpr ⟨q, v, _, rfl, h1, h2, RepT.append h3 t⟩
theorem RepK.any (k : Key) : ∀ {l : List (D × D)} {xs : List (Key × V)}, RepK M F l xs → (l.any fun p => p.1.eq (kD k)) = xs.any fun kv => decide (kv.1 = k)
  | [], _, h => by cases repK_nil.mp h; rfl
  | p :: l, _, h => by
    obtain ⟨q, v, r, rfl, ⟨h1, _⟩, h2, h3⟩ := repK_cons.mp h
    rw [List.any_cons, List.any_cons, h1, key_eq, RepK.any k h3]
theorem RepT.any (k : List Key) : ∀ {l : List (D × D)} {xs : List (List Key × V)}, RepT M F l xs → (l.any fun p => p.1.eq (.tup (k.map kD))) = xs.any fun kv => decide (kv.1 = k)
  | [], _, h => by cases repT_nil.mp h; rfl
  | p :: l, _, h => by
    obtain ⟨q, v, r, rfl, ⟨h1, _⟩, h2, h3⟩ := repT_cons.mp h
    rw [List.any_cons, List.any_cons, h1, keyT_eq, RepT.any k h3]
theorem RepK.repl (k : Key) {y : V} {d : D} (ry : Rep M F d y) : ∀ {l : List (D × D)} {xs : List (Key × V)}, RepK M F l xs → RepK M F (l.map fun p => if p.1.eq (kD k) = true then (p.1, d) else p) (xs.map fun kv => if kv.1 = k then (kv.1, y) else kv)
  | [], _, h => by cases repK_nil.mp h; exact repK_nil.mpr rfl
  | p :: l, _, h => by
    obtain ⟨q, v, r, rfl, ⟨h1, h0⟩, h2, h3⟩ := repK_cons.mp h
    rw [List.map_cons, List.map_cons]
    by_cases e : q = k
    · have e1 : p.1.eq (kD k) = true := by rw [h1, key_eq]; exact decide_eq_true e
      rw [if_pos e1, if_pos e]
      exact repK_cons.mpr ⟨q, y, _, rfl, ⟨h1, h0⟩, ry, RepK.repl k ry h3⟩
    · have e1 : ¬ p.1.eq (kD k) = true := by rw [h1, key_eq, decide_eq_false e]; decide
      rw [if_neg e1, if_neg e]
      exact repK_cons.mpr ⟨q, v, _, rfl, ⟨h1, h0⟩, h2, RepK.repl k ry h3⟩
theorem RepT.repl (k : List Key) {y : V} {d : D} (ry : Rep M F d y) : ∀ {l : List (D × D)} {xs : List (List Key × V)}, RepT M F l xs → RepT M F (l.map fun p => if p.1.eq (.tup (k.map kD)) = true then (p.1, d) else p) (xs.map fun kv => if kv.1 = k then (kv.1, y) else kv)
  | [], _, h => by cases repT_nil.mp h; exact repT_nil.mpr rfl
  | p :: l, _, h => by
    obtain ⟨q, v, r, rfl, ⟨h1, h0⟩, h2, h3⟩ := repT_cons.mp h
    rw [List.map_cons, List.map_cons]
    by_cases e : q = k
    · have e1 : p.1.eq (.tup (k.map kD)) = true := by rw [h1, keyT_eq]; exact decide_eq_true e
      rw [if_pos e1, if_pos e]
      exact repT_cons.mpr ⟨q, y, _, rfl, ⟨h1, h0⟩, ry, RepT.repl k ry h3⟩
    · have e1 : ¬ p.1.eq (.tup (k.map kD)) = true := by rw [h1, keyT_eq, decide_eq_false e]; decide
      rw [if_neg e1, if_neg e]
      exact repT_cons.mpr ⟨q, v, _, rfl, ⟨h1, h0⟩, h2, RepT.repl k ry h3⟩
theorem RepK.put {l : List (D × D)} {xs : List (Key × V)} (k : Key) (hk : kOk k = true) {y : V} {d : D} (ry : Rep M F d y) (h : RepK M F l xs) : RepK M F (dput l (kD k) d) (putK xs k y) := by
  unfold dput putK
  rw [h.any k]
  split
  · exact h.repl k ry
  · exact h.append (repK_cons.mpr ⟨k, y, [], rfl, ⟨rfl, hk⟩, ry, repK_nil.mpr rfl⟩)
theorem RepT.put {l : List (D × D)} {xs : List (List Key × V)} (k : List Key) (hk : k.all kOk = true) {y : V} {d : D} (ry : Rep M F d y) (h : RepT M F l xs) : RepT M F (dput l (.tup (k.map kD)) d) (putK xs k y) := by
  unfold dput putK
  rw [h.any k]
  split
  · exact h.repl k ry
  · exact h.append (repT_cons.mpr ⟨k, y, [], rfl, ⟨rfl, hk⟩, ry, repT_nil.mpr rfl⟩)
theorem RepK.drop (k : Key) : ∀ {l : List (D × D)} {xs : List (Key × V)}, RepK M F l xs → RepK M F (ddrop l (kD k)) (dropK xs k)
  | [], _, h => by cases repK_nil.mp h; exact repK_nil.mpr rfl
  | p :: l, _, h => by
    obtain ⟨q, v, r, rfl, ⟨h1, h0⟩, h2, h3⟩ := repK_cons.mp h
    have ih := RepK.drop k h3
    unfold ddrop dropK at ih ⊢
    rw [List.filter_cons, List.filter_cons, h1, key_eq]
    by_cases e : q = k
    · have e1 : ¬ (!decide (q = k)) = true := by rw [decide_eq_true e]; decide
      have e2 : ¬ decide ((q, v).1 ≠ k) = true := by simp [e]
      rw [if_neg e1, if_neg e2]; exact ih
    · have e1 : (!decide (q = k)) = true := by rw [decide_eq_false e]; decide
      have e2 : decide ((q, v).1 ≠ k) = true := by simp [e]
      rw [if_pos e1, if_pos e2]
      exact repK_cons.mpr ⟨q, v, _, rfl, ⟨h1, h0⟩, h2, ih⟩
/-- a key's value -/
theorem kv_rep {k : Key} {v : V} (h : Rep M F (kD k) v) : v = kV k ∧ kOk k = true := by
  cases k with
  | inl i => exact ⟨rep_int.mp h, rfl⟩
  | inr x => obtain ⟨e, h2⟩ := rep_str.mp h; exact ⟨e, h2⟩
theorem kvs_rep : ∀ {ks : List Key} {xs : List V}, Reps M F (ks.map kD) xs → xs = ks.map kV ∧ ks.all kOk = true
  | [], _, h => by cases reps_nil.mp h; exact ⟨rfl, rfl⟩
  | k :: ks, _, h => by
    obtain ⟨v, r, rfl, h1, h2⟩ := reps_cons.mp h
    obtain ⟨rfl, e1⟩ := kv_rep h1
    obtain ⟨rfl, e2⟩ := kvs_rep h2
    exact ⟨rfl, by rw [List.all_cons, e1, e2]; rfl⟩
theorem key1 {H : Hp} {d : D} {k : Key} {v : V} (h : Rep1 M F H d v) (e : d.key = some k) : d = kD k ∧ v = kV k ∧ kOk k = true := by
  have z := key_kD e
  subst z
  cases k with
  | inl i => exact ⟨rfl, r1_int h, rfl⟩
  | inr x => exact ⟨rfl, (r1_str h).1, (r1_str h).2⟩
theorem keyT1 {H : Hp} {d : D} {ks : List Key} {v : V} (h : Rep1 M F H d v) (e : d.keyT = some ks) : d = .tup (ks.map kD) ∧ (∃ b, v = .ref b ∧ F b = some (.tup (ks.map kV))) ∧ ks.all kOk = true := by
  obtain ⟨n, z⟩ := keyT_kD e
  subst z
  obtain ⟨a, xs, rfl, h1, h2⟩ := r1_tupS h fun z => n (List.map_eq_nil_iff.mp z)
  obtain ⟨rfl, ok⟩ := kvs_rep h2
  exact ⟨rfl, ⟨a, rfl, h1⟩, ok⟩
/-- what a dict (as data) holds at a key -/
def gGet : D → D → Option (Option D)
  | .dct l, k => match k.key with
    | some _ => some (dlook l k)
    | none => none
  | .dtt l, k => match k.keyT with
    | some _ => some (dlook l k)
    | none => none
  | _, _ => none
theorem get_DGet {H : Hp} {d1 d2 : D} {x y : V} {o : Option D} (sub : Ex F H) (r1 : Rep1 M F H d1 x) (r2 : Rep1 M F H d2 y) (e : gGet d1 d2 = some o) : ∃ a ov, x = .ref a ∧ DGet H a y ov ∧ RO M F o ov := by
  unfold gGet at e
  split at e
  · rename_i l k
    split at e
    · rename_i k' hk
      cases e
      obtain ⟨rfl, rfl, _⟩ := key1 r2 hk
      obtain ⟨a, kvs, rfl, h1, h2⟩ := r1
      exact ⟨a, valV kvs k', rfl, .inl ⟨kvs, k', h1, rfl, rfl⟩, h2.look k'⟩
    · cases e
  · rename_i l k
    split at e
    · rename_i k' hk
      cases e
      obtain ⟨rfl, ⟨b, rfl, hb⟩, _⟩ := keyT1 r2 hk
      obtain ⟨a, kvs, rfl, h1, h2⟩ := r1
      exact ⟨a, valV kvs k', rfl, .inr ⟨kvs, k', b, h1, rfl, sub _ _ hb, rfl⟩, h2.look k'⟩
    · cases e
  · cases e
end
def D.flat : D → Bool
  | .non | .bl _ | .int _ | .str _ => true
  | _ => false
theorem flat1 {M : Md} {F : Hp} {d : D} {v : V} (h : Rep M F d v) (f : d.flat = true) : flatV v = true := by
  cases d <;> first | cases f | skip
  · cases rep_non.mp h; rfl
  · cases rep_bl.mp h; rfl
  · cases rep_int.mp h; rfl
  · obtain ⟨rfl, _⟩ := rep_str.mp h; rfl
theorem eq1 {M : Md} {F G : Hp} {d e : D} {v w : V} (h : Rep M F d v) (g : Rep M G e w) (f : d.flat = true) (f2 : e.flat = true) : eqV v w = d.eq e := by
  have key : ∀ {d : D} {v : V} {F : Hp}, Rep M F d v → d.flat = true → (d = .non ∧ v = .non) ∨ (∃ b, d = .bl b ∧ v = .bl b) ∨ (∃ b, d = .int b ∧ v = .int b) ∨ ∃ b, d = .str b ∧ v = .str b := by
    intro d v F h f
    cases d <;> first | cases f | skip
    · exact .inl ⟨rfl, rep_non.mp h⟩
    · exact .inr (.inl ⟨_, rfl, rep_bl.mp h⟩)
    · exact .inr (.inr (.inl ⟨_, rfl, rep_int.mp h⟩))
    · exact .inr (.inr (.inr ⟨_, rfl, (rep_str.mp h).1⟩))
  unfold D.eq
  rcases key h f with ⟨rfl, rfl⟩ | ⟨b, rfl, rfl⟩ | ⟨b, rfl, rfl⟩ | ⟨b, rfl, rfl⟩ <;> rcases key g f2 with ⟨rfl, rfl⟩ | ⟨c, rfl, rfl⟩ | ⟨c, rfl, rfl⟩ | ⟨c, rfl, rfl⟩ <;> (unfold D.py PyData.eqv eqV; rfl)
theorem any1 {M : Md} {F : Hp} {e : D} {w : V} (g : Rep M F e w) (f2 : e.flat = true) : ∀ {l : List D} {xs : List V}, Reps M F l xs → l.all D.flat = true → xs.all flatV = true ∧ inV w xs = l.any fun z => z.eq e
  | [], _, h, _ => by cases reps_nil.mp h; exact ⟨rfl, rfl⟩
  | d :: l, _, h, f => by
    obtain ⟨v, r, rfl, h1, h2⟩ := reps_cons.mp h
    rw [List.all_cons, Bool.and_eq_true] at f
    obtain ⟨a1, a2⟩ := any1 g f2 h2 f.2
    refine ⟨by rw [List.all_cons, flat1 h1 f.1, a1]; rfl, ?_⟩
    have a2' : (r.any fun y => eqV y w) = l.any fun z => z.eq e := a2
    show ((v :: r).any fun y => eqV y w) = _
    rw [List.any_cons, List.any_cons, a2', eq1 h1 g f.1 f2]
theorem pys_any (p : PyData) : ∀ l : List D, ((D.pys l).any fun z => PyData.eqv z p) = l.any fun z => PyData.eqv z.py p
  | [] => rfl
  | d :: l => by
    unfold D.pys
    rw [List.any_cons, List.any_cons, pys_any p l]
/-- x in y -/
def inD (a b : D) : Option Bool :=
  match b with
  | .lst l => if (a.eqs && (D.lst l).eqs) = true then some (l.any fun z => z.eq a) else none
  | .tup l => if (a.flat && l.all D.flat) = true then some (l.any fun z => z.eq a) else none
  | .str z => match a with
    | .str c => (match c.cps.toList with
      | [n] => some (decide (n ∈ z.cps.toList))
      | _ => none)
    | _ => none
  | b => match gGet b a with
    | some o => some o.isSome
    | none => none
def gIn (a b : D) : Option AV := (inD a b).map fun k => .dat (.bl k)
def gNin (a b : D) : Option AV := (inD a b).map fun k => .dat (.bl (!k))
def rDIn (f : Bool → Bool) : R2 := fun x y H Q => ∃ a o, y = .ref a ∧ DGet H a x o ∧ Q (.bl (f o.isSome)) H
def rInA (K : PySem.W.Frag) : R2 := fun x y H Q => ((rInD K x y H Q ∨ rIn K false x y H Q) ∨ rDIn id x y H Q) ∨ (∃ (c : Nat) (z : Str), x = .str ⟨#[c]⟩ ∧ y = .str z ∧ Q (.bl (decide (c ∈ z.cps.toList))) H)
def rNinA (K : PySem.W.Frag) : R2 := fun x y H Q => ((rNotInD K x y H Q ∨ rIn K true x y H Q) ∨ rDIn not x y H Q) ∨ (∃ (c : Nat) (z : Str), x = .str ⟨#[c]⟩ ∧ y = .str z ∧ Q (.bl (!decide (c ∈ z.cps.toList))) H)
section
variable {X : Cx}
theorem op_dIn (hu : X.A.units + 65 < cLine) : OpR X (compareOp .In) (rDIn id) := by
  intro pins s σ H x y v u Q I rx ry h
  obtain ⟨a, o, rfl, g, q⟩ := h
  obtain rfl : u = Value.ref a := ry
  exact d_in (by omega) I g rx fun s3 I3 => ⟨.bl o.isSome, H, I3, rfl, q⟩
theorem op_dNin (hu : X.A.units + 65 < cLine) : OpR X (compareOp .NotIn) (rDIn not) := by
  intro pins s σ H x y v u Q I rx ry h
  obtain ⟨a, o, rfl, g, q⟩ := h
  obtain rfl : u = Value.ref a := ry
  exact d_notIn (by omega) I g rx fun s3 I3 => ⟨.bl (!o.isSome), H, I3, rfl, q⟩
theorem op_inA (hu : X.A.units + 65 < cLine) : OpR X (compareOp .In) (rInA X.K) := (((op_inD hu).or op_in_seq).or (op_dIn hu)).or op_in_sign
theorem op_ninA (hu : X.A.units + 65 < cLine) : OpR X (compareOp .NotIn) (rNinA X.K) := (((op_notInD hu).or op_notIn_seq).or (op_dNin hu)).or op_notIn_sign
end
theorem RO.isSome {M : Md} {F : Hp} {o : Option D} {v : Option V} (h : RO M F o v) : v.isSome = o.isSome := by
  cases o <;> cases v <;> first | rfl | exact h.elim
theorem inD_sem {M : Md} {F H : Hp} {x y : V} {a b : D} {k : Bool} {Q : VK} (sub : Ex F H) (r1 : Rep1 M F H a x) (r2 : Rep1 M F H b y) (e : inD a b = some k) :
    (Q (.bl k) H → rInA M.K x y H Q) ∧ (Q (.bl (!k)) H → rNinA M.K x y H Q) := by
  unfold inD at e
  split at e
  · rename_i l
    split at e
    · rename_i hs
      rw [Bool.and_eq_true] at hs
      cases e
      obtain ⟨p1, s1⟩ := py_shaped (r1.rep sub (eqs_nd hs.1)) hs.1
      obtain ⟨p2, s2⟩ := py_shaped (r2.rep sub (eqs_nd hs.2)) hs.2
      have e1 : (l.any fun z => z.eq a) = ((D.pys l).any fun z => PyData.eqv z a.py) := (pys_any a.py l).symm
      have d1 : (D.lst l).py = .list (D.pys l) := by unfold D.py; rfl
      rw [d1] at p2 s2
      rw [e1]
      exact ⟨fun q => .inl (.inl (.inl ⟨_, _, p1, p2, s1, s2, q⟩)), fun q => .inl (.inl (.inl ⟨_, _, p1, p2, s1, s2, q⟩))⟩
    · cases e
  · rename_i l
    split at e
    · rename_i hs
      rw [Bool.and_eq_true] at hs
      cases e
      obtain ⟨p, xs, rfl, h1, h2⟩ := r1_tup r2
      have h3 : Rep M F a x := by
        cases a <;> first | exact r1 | cases hs.1
      obtain ⟨f1, f2⟩ := any1 h3 hs.1 h2 hs.2
      rw [← f2]
      have ht : SqT M.K H p xs := Evl.ex_t sub h1
      exact ⟨fun q => .inl (.inl (.inr ⟨p, xs, rfl, .inr ht, flat1 h3 hs.1, f1, q⟩)), fun q => .inl (.inl (.inr ⟨p, xs, rfl, .inr ht, flat1 h3 hs.1, f1, q⟩))⟩
    · cases e
  · rename_i z
    split at e
    · rename_i c
      split at e
      · rename_i n hn
        cases e
        obtain ⟨rfl, _⟩ := r1_str r2
        obtain ⟨rfl, _⟩ := r1_str r1
        have hc : c = ⟨#[n]⟩ := by
          obtain ⟨arr⟩ := c
          have hn' : arr.toList = [n] := hn
          have : arr = #[n] := by
            rw [← Array.toArray_toList (xs := arr), hn']
          rw [this]
        subst hc
        exact ⟨fun q => .inr ⟨n, z, rfl, rfl, q⟩, fun q => .inr ⟨n, z, rfl, rfl, q⟩⟩
      · cases e
    · cases e
  · split at e
    · rename_i o ho
      cases e
      obtain ⟨p, ov, rfl, g, ro⟩ := get_DGet sub r2 r1 ho
      rw [← ro.isSome]
      exact ⟨fun q => .inl (.inr ⟨p, ov, rfl, g, q⟩), fun q => .inl (.inr ⟨p, ov, rfl, g, q⟩)⟩
    · cases e
theorem o2_in {M : Md} : O2 M (rInA M.K) gIn := by
  intro F H x y d1 d2 av Q sub r1 r2 e h
  unfold gIn at e
  obtain ⟨k, e1, rfl⟩ := Option.map_eq_some_iff.mp e
  exact (inD_sem sub r1 r2 e1).1 (fin_dat sub h (rep_bl.mpr rfl))
theorem o2_nin {M : Md} : O2 M (rNinA M.K) gNin := by
  intro F H x y d1 d2 av Q sub r1 r2 e h
  unfold gNin at e
  obtain ⟨k, e1, rfl⟩ := Option.map_eq_some_iff.mp e
  exact (inD_sem sub r1 r2 e1).2 (fin_dat sub h (rep_bl.mpr rfl))
def gIx : D → D → Option AV
  | .lst l, .int i => (atI l i).map .dat
  | .tup l, .int i => (atI l i).map .dat
  | .fz l, .int i => (atI l i).map .dat
  | .str z, .int i => if z.length ≤ sizeLine then (atI z.cps.toList i).map fun c => .dat (.str ⟨#[c]⟩) else none
  | d, k => match gGet d k with
    | some (some v) => some (.dat v)
    | _ => none
def rDIx : R2 := fun x y H Q => ∃ a v, x = .ref a ∧ DGet H a y (some v) ∧ Q v H
def rIxA (K : PySem.W.Frag) : R2 := fun x y H Q => rIx K x y H Q ∨ rDIx x y H Q
theorem ix_dict {X : Cx} (hu : X.A.units + 65 < cLine) : IxR X rDIx := by
  intro value slice pins s σ H x y v u Q I rx ry h hs
  obtain ⟨a, w, rfl, g, q⟩ := h
  obtain rfl : v = Value.ref a := rx
  have hT := dict_typeIs I g
  have hl := PySem.F.slot_dict_getitem.lookup
  unfold subscriptTail
  refine wpAny_bind ?_
  rw [getitemInPython_of_ne hT.not_modules]
  refine wpAny_bind (wpAny_specialOf hT hl ?_)
  have h2 := d_getItem (A := X.A) (E := X.xe) (Q := EP X pins σ Q) (show X.A.units + 1 < cLine by omega) I g ry fun w' s3 I3 rw' => ⟨w, H, I3, rw', q⟩
  have fin : wpAny (model X.prog X.w) X.A (subscripted slice false (.ref a) u) (fun r s₃ => wpAny (model X.prog X.w) X.A (letTemporaryGo value (.ref a) r >>= fun _ => pure r) (EP X pins σ Q) X.xe s₃) X.xe s := by
    rw [hs]
    exact wpAny_operating (wpAny_mono h2 (fun r s₃ h₃ => wpAny_bind (wpAny_letTemporaryGo (wpAny_pure h₃))) fun _ _ x => x)
  first
    | exact wpAny_pure (wpAny_bind fin)
    | exact wpAny_bind (wpAny_pure (wpAny_bind fin))
    | exact wpAny_bind fin
theorem ix_A {X : Cx} (hu : X.A.units + 65 < cLine) : IxR X (rIxA X.K) := ix_seq.or (ix_dict hu)
theorem atI_reps {M : Md} {F : Hp} {l : List D} {xs : List V} {i : Int} {d : D} (h : Reps M F l xs) (e : atI l i = some d) : ∃ v, atI xs i = some v ∧ Rep M F d v := by
  unfold atI at e ⊢
  rw [h.length]
  obtain ⟨j, h1, h2⟩ := Option.bind_eq_some_iff.mp e
  obtain ⟨v, h3, h4⟩ := h.get h2
  exact ⟨v, by rw [h1]; exact h3, h4⟩
theorem strOk_mem {z : Str} {n : Nat} (h : PyData.strOk z = true) (m : n ∈ z.cps.toList) : PyData.strOk ⟨#[n]⟩ = true := by
  have h2 : z.cps.all (· < 0x110000) = true := h
  rw [Array.all_eq_true_iff_forall_mem] at h2
  have h3 := h2 n (by simpa using m)
  show (#[n]).all _ = true
  simpa using h3
theorem strOk_sub {z w : Str} (h : PyData.strOk z = true) (m : ∀ n ∈ w.cps.toList, n ∈ z.cps.toList) : PyData.strOk w = true := by
  have h2 : z.cps.all (· < 0x110000) = true := h
  rw [Array.all_eq_true_iff_forall_mem] at h2
  show w.cps.all _ = true
  rw [Array.all_eq_true_iff_forall_mem]
  intro n hn
  exact h2 n (by simpa using m n (by simpa using hn))
theorem atI_mem {α : Type} {xs : List α} {i : Int} {v : α} (h : atI xs i = some v) : v ∈ xs := by
  obtain ⟨j, _, h2, _⟩ := atI_get h
  exact List.mem_of_getElem? h2
theorem o2_ix {M : Md} : O2 M (rIxA M.K) gIx := by
  intro F H x y d1 d2 av Q sub r1 r2 e h
  unfold gIx at e
  split at e
  · rename_i l i
    obtain ⟨d, e1, rfl⟩ := Option.map_eq_some_iff.mp e
    cases r1_int r2
    obtain ⟨a, xs, rfl, h1, h2⟩ := r1_lst r1
    obtain ⟨v, h3, h4⟩ := atI_reps h2 e1
    exact .inl (.inl ⟨a, xs, i, v, rfl, rfl, SqL.of h1, h3, fin_dat sub h h4⟩)
  · rename_i l i
    obtain ⟨d, e1, rfl⟩ := Option.map_eq_some_iff.mp e
    cases r1_int r2
    obtain ⟨a, xs, rfl, h1, h2⟩ := r1_tup r1
    obtain ⟨v, h3, h4⟩ := atI_reps h2 e1
    exact .inl (.inr (.inl ⟨a, xs, i, v, rfl, rfl, Evl.ex_t sub h1, h3, fin_dat sub h h4⟩))
  · rename_i l i
    obtain ⟨d, e1, rfl⟩ := Option.map_eq_some_iff.mp e
    cases r1_int r2
    obtain ⟨a, xs, rfl, h1, h2⟩ := r1_fz r1
    obtain ⟨v, h3, h4⟩ := atI_reps h2 e1
    exact .inl (.inl ⟨a, xs, i, v, rfl, rfl, Evl.ex_l sub h1, h3, fin_dat sub h h4⟩)
  · rename_i z i
    split at e
    · rename_i hl
      obtain ⟨n, e1, rfl⟩ := Option.map_eq_some_iff.mp e
      cases r1_int r2
      obtain ⟨rfl, ok⟩ := r1_str r1
      exact .inl (.inr (.inr ⟨z, i, n, rfl, rfl, hl, e1, fin_dat sub h (rep_str.mpr ⟨rfl, strOk_mem ok (atI_mem e1)⟩)⟩))
    · cases e
  · split at e
    · rename_i v hg
      cases e
      obtain ⟨p, ov, rfl, g, ro⟩ := get_DGet sub r1 r2 hg
      cases ov with
      | none => exact ro.elim
      | some w => exact .inr ⟨p, w, rfl, g, fin_dat sub h ro⟩
    · cases e
end Nv
-- N6
namespace Nv
open PySem PySem.Spec PyProof.Rows L2
open Evl (Ex)
theorem reps1_1 {M : Md} {F H : Hp} {d : D} {vs : List V} (h : reps1 M F H [d] vs) : ∃ v, vs = [v] ∧ Rep1 M F H d v := by
  match vs, h with
  | [v], h => exact ⟨v, rfl, h.1⟩
theorem reps1_2 {M : Md} {F H : Hp} {d e : D} {vs : List V} (h : reps1 M F H [d, e] vs) : ∃ v w, vs = [v, w] ∧ Rep1 M F H d v ∧ Rep1 M F H e w := by
  match vs, h with
  | [v, w], h => exact ⟨v, w, rfl, h.1, h.2.1⟩
/-- one operand -/
def gA1 (g : D → Option AV) : List D → Option AV
  | [d] => g d
  | _ => none
def gA2 (g : D → D → Option AV) : List D → Option AV
  | [d, e] => g d e
  | _ => none
theorem opS1 {M : Md} {r : List V → Hp → VK → Prop} {g : D → Option AV} (h : ∀ F H x d av Q, Ex F H → Rep1 M F H d x → g d = some av → Nv.Fin M F H av Q → r [x] H Q) : OpS M r (gA1 g) := by
  intro F H vs ds av Q sub rs e k
  unfold gA1 at e
  split at e
  · obtain ⟨v, rfl, r1⟩ := reps1_1 rs
    exact h F H v _ av Q sub r1 e k
  · cases e
theorem opS2 {M : Md} {r : List V → Hp → VK → Prop} {g : D → D → Option AV} (h : ∀ F H x y d1 d2 av Q, Ex F H → Rep1 M F H d1 x → Rep1 M F H d2 y → g d1 d2 = some av → Nv.Fin M F H av Q → r [x, y] H Q) : OpS M r (gA2 g) := by
  intro F H vs ds av Q sub rs e k
  unfold gA2 at e
  split at e
  · obtain ⟨v, w, rfl, r1, r2⟩ := reps1_2 rs
    exact h F H v w _ _ av Q sub r1 r2 e k
  · cases e
def gLen : D → Option AV
  | .lst l => some (.dat (.int l.length))
  | .tup l => some (.dat (.int l.length))
  | .fz l => some (.dat (.int l.length))
  | .dct l => some (.dat (.int l.length))
  | .dtt l => some (.dat (.int l.length))
  | .str s => if s.length ≤ sizeLine then some (.dat (.int s.length)) else none
  | _ => none
def rLenA (K : PySem.W.Frag) : List V → Hp → VK → Prop := fun xs H Q => (∃ x n, xs = [x] ∧ LenV K x H n ∧ Q (.int n) H) ∨ (∃ p, xs = [.ref p] ∧ ((∃ kvs : List (Key × V), Rd H p (.dK kvs) ∧ Q (.int ((kvs.length : Nat) : Int)) H) ∨ ∃ kvs : List (List Key × V), Rd H p (.dT kvs) ∧ Q (.int ((kvs.length : Nat) : Int)) H))
theorem call_lenD2 {X : Cx} : CallR X (.builtin "len") (fun xs H Q => ∃ p, xs = [.ref p] ∧ ((∃ kvs : List (Key × V), Rd H p (.dK kvs) ∧ Q (.int ((kvs.length : Nat) : Int)) H) ∨ ∃ kvs : List (List Key × V), Rd H p (.dT kvs) ∧ Q (.int ((kvs.length : Nat) : Int)) H)) := by
  intro pins s σ H xs us Q I r h
  obtain ⟨p, rfl, h⟩ := h
  obtain ⟨u, rfl, rx⟩ := vals1 r
  obtain rfl : u = .ref p := rx
  rcases h with ⟨kvs, hp, q⟩ | ⟨kvs, hp, q⟩
  · exact d_len I hp fun t s' I' => ⟨.int _, H, I', ⟨t, rfl⟩, q⟩
  · obtain ⟨z, hd, ys, rel, dd⟩ := dt_rd I.hok hp
    have hl : kvs.length = ys.length := Paired.length rel
    have h63 := line63
    exact call_len_dictH hd dd (by omega) ⟨.int _, H, I.tok _, (by rw [hl]; exact ⟨_, rfl⟩), q⟩
theorem call_lenA {X : Cx} : CallR X (.builtin "len") (rLenA X.K) := call_len.or call_lenD2
theorem os_len {M : Md} : OpS M (rLenA M.K) (gA1 gLen) := opS1 fun F H x d av Q sub r1 e h => by
  unfold gLen at e
  split at e
  · cases e
    obtain ⟨a, xs, rfl, h1, h2⟩ := r1_lst r1
    exact .inl ⟨_, _, rfl, .inl ⟨xs, SqL.of h1, rfl⟩, by rw [h2.length]; exact fin_dat sub h (rep_int.mpr rfl)⟩
  · cases e
    obtain ⟨a, xs, rfl, h1, h2⟩ := r1_tup r1
    exact .inl ⟨_, _, rfl, .inr ⟨xs, Evl.ex_t sub h1, rfl⟩, by rw [h2.length]; exact fin_dat sub h (rep_int.mpr rfl)⟩
  · cases e
    obtain ⟨a, xs, rfl, h1, h2⟩ := r1_fz r1
    exact .inl ⟨_, _, rfl, .inl ⟨xs, Evl.ex_l sub h1, rfl⟩, by rw [h2.length]; exact fin_dat sub h (rep_int.mpr rfl)⟩
  · cases e
    obtain ⟨a, kvs, rfl, h1, h2⟩ := r1
    exact .inr ⟨a, rfl, .inl ⟨kvs, h1, by rw [h2.length]; exact fin_dat sub h (rep_int.mpr rfl)⟩⟩
  · cases e
    obtain ⟨a, kvs, rfl, h1, h2⟩ := r1
    exact .inr ⟨a, rfl, .inr ⟨kvs, h1, by rw [h2.length]; exact fin_dat sub h (rep_int.mpr rfl)⟩⟩
  · split at e
    · rename_i hl
      cases e
      obtain ⟨rfl, _⟩ := r1_str r1
      exact .inl ⟨_, _, rfl, ⟨hl, rfl⟩, fin_dat sub h (rep_int.mpr rfl)⟩
    · cases e
  · cases e
def gInt : D → Option AV
  | .int i => some (.dat (.int i))
  | .bl b => some (.dat (.int (if b then 1 else 0)))
  | .str s => if s.length ≤ 640 then (intText? s).map fun n => .dat (.int n) else none
  | _ => none
def rIntA : List V → Hp → VK → Prop := fun xs H Q => ((∃ i, xs = [.int i] ∧ Q (.int i) H) ∨ ∃ k, xs = [.bl k] ∧ Q (.int (if k then 1 else 0)) H) ∨ ∃ a n, xs = [.str a] ∧ PySem.intText? a = some n ∧ a.length ≤ 640 ∧ Q (.int n) H
theorem call_intA {X : Cx} : CallR X (.type "int") rIntA := call_int1.or call_int_str
theorem os_int {M : Md} : OpS M rIntA (gA1 gInt) := opS1 fun F H x d av Q sub r1 e h => by
  unfold gInt at e
  split at e
  · cases e
    cases r1_int r1
    exact .inl (.inl ⟨_, rfl, fin_dat sub h (rep_int.mpr rfl)⟩)
  · cases e
    cases r1_bl r1
    exact .inl (.inr ⟨_, rfl, fin_dat sub h (rep_int.mpr rfl)⟩)
  · split at e
    · rename_i hl
      obtain ⟨n, e1, rfl⟩ := Option.map_eq_some_iff.mp e
      obtain ⟨rfl, _⟩ := r1_str r1
      exact .inr ⟨_, n, rfl, e1, hl, fin_dat sub h (rep_int.mpr rfl)⟩
    · cases e
  · cases e
def gList : D → Option AV
  | .lst l => some (.own (.lst l))
  | .tup l => some (.own (.lst l))
  | .fz l => some (.own (.lst l))
  | _ => none
theorem os_list {M : Md} : OpS M (fun xs H Q => ∃ p ys, xs = [.ref p] ∧ (SqL M.K H p ys ∨ SqT M.K H p ys) ∧ ∀ l, H l = none → Q (.ref l) (upd H l (.lst ys))) (gA1 gList) := opS1 fun F H x d av Q sub r1 e h => by
  unfold gList at e
  split at e
  · cases e
    obtain ⟨a, xs, rfl, h1, h2⟩ := r1_lst r1
    exact ⟨a, xs, rfl, .inl (SqL.of h1), fun l n => fin_lst sub h n h2⟩
  · cases e
    obtain ⟨a, xs, rfl, h1, h2⟩ := r1_tup r1
    exact ⟨a, xs, rfl, .inr (Evl.ex_t sub h1), fun l n => fin_lst sub h n h2⟩
  · cases e
    obtain ⟨a, xs, rfl, h1, h2⟩ := r1_fz r1
    exact ⟨a, xs, rfl, .inl (Evl.ex_l sub h1), fun l n => fin_lst sub h n h2⟩
  · cases e
def gTuple : D → Option AV
  | .lst l => some (.dat (.tup l))
  | .tup l => some (.dat (.tup l))
  | .fz l => some (.dat (.tup l))
  | _ => none
theorem os_tuple {M : Md} : OpS M (fun xs H Q => ∃ p ys, xs = [.ref p] ∧ ((SqL M.K H p ys ∧ ∀ l, H l = none → Q (.ref l) (upd H l (.tup ys))) ∨ (SqT M.K H p ys ∧ Q (.ref p) H))) (gA1 gTuple) := opS1 fun F H x d av Q sub r1 e h => by
  unfold gTuple at e
  split at e
  · cases e
    obtain ⟨a, xs, rfl, h1, h2⟩ := r1_lst r1
    exact ⟨a, xs, rfl, .inl ⟨SqL.of h1, fun l n => fin_tup sub h n h2⟩⟩
  · cases e
    have r2 := r1
    obtain ⟨a, xs, rfl, h1, h2⟩ := r1_tup r1
    exact ⟨a, xs, rfl, .inr ⟨Evl.ex_t sub h1, fin_dat sub h r2⟩⟩
  · cases e
    obtain ⟨a, xs, rfl, h1, h2⟩ := r1_fz r1
    exact ⟨a, xs, rfl, .inl ⟨Evl.ex_l sub h1, fun l n => fin_tup sub h n h2⟩⟩
  · cases e
def gI2 (f : Int → Int → Int) : D → D → Option AV
  | .int i, .int j => some (.dat (.int (f i j)))
  | _, _ => none
theorem os_I2 {M : Md} {f : Int → Int → Int} : OpS M (fun xs H Q => ∃ i j, xs = [.int i, .int j] ∧ Q (.int (f i j)) H) (gA2 (gI2 f)) := opS2 fun F H x y d1 d2 av Q sub r1 r2 e h => by
  unfold gI2 at e
  split at e
  · cases e
    cases r1_int r1
    cases r1_int r2
    exact ⟨_, _, rfl, fin_dat sub h (rep_int.mpr rfl)⟩
  · cases e
section
variable {X : Cx} {c : Cf} {e a b d : Expr} {es rest : List Expr} {pos : Pos}
def dats : List OV → Option (List D)
  | [] => some []
  | .dat d :: r => (dats r).map (d :: ·)
  | _ => none
theorem dats_reps {M : Md} {σ : L2.St} {F : Hp} : ∀ {os : List OV} {ds : List D} {vs : List V}, dats os = some ds → ovsR M σ F vs os → Reps M F ds vs
  | [], ds, [], h, _ => by cases h; exact Reps.nil
  | [], _, _ :: _, _, h => h.elim
  | _ :: _, _, [], _, h => h.elim
  | o :: os, ds, v :: vs, h, hv => by
    unfold dats at h
    split at h
    · rename_i h'; cases h'
    · rename_i d r h'
      cases h'
      obtain ⟨ds', e1, rfl⟩ := Option.map_eq_some_iff.mp h
      exact Reps.cons hv.1 (dats_reps e1 hv.2)
    · cases h
def dispR (mk : List D → AV) (os : List OV) (Γ : Ev) : Rs AV :=
  match dats os with
  | some ds => if ds.length ≤ sizeLine then .ok (mk ds) Γ else .bad
  | none => .bad
def tupE (f : Ev → Rs (List OV)) : Ev → Rs AV := fun Γ => (f Γ).bind fun os Γ => dispR (fun ds => .dat (.tup ds)) os Γ
def lstE (f : Ev → Rs (List OV)) : Ev → Rs AV := fun Γ => (f Γ).bind fun os Γ => dispR (fun ds => .own (.lst ds)) os Γ
theorem do_tup {f : Ev → Rs (List OV)} {k : Nat} (h : DA X c es f) : DO X c (.Tuple es k pos) (tupE f) := by
  refine PE.of (pe_tup h) fun σ H Q ⟨F, Γ, r, q⟩ => ⟨F, Γ, r, ?_⟩
  refine (Po.bind (R := vrA c.M) q).imp fun vs H1 ⟨F1, Γ1, os, r1, e1, a1, q1⟩ => ?_
  unfold dispR at q1
  split at q1
  · rename_i ds hd
    split at q1
    · rename_i hl
      have hr := dats_reps hd a1
      refine ⟨by rw [hr.length]; exact hl, fun p n => ?_⟩
      have r2 := r1.newF (o := .tup vs) n
      exact q1 _ _ _ r2 (e1.trans (Ext.newF n (r1.fr n))) (show Rep c.M _ _ _ from rep_tup.mpr ⟨p, vs, rfl, .inl upd_same, hr.mono (Evl.Ex.new (r1.fr n))⟩)
    · exact q1.elim
  · exact q1.elim
theorem do_lst {f : Ev → Rs (List OV)} (h : DA X c es f) : DO X c (.List es pos) (lstE f) := by
  refine PE.of (pe_lst h) fun σ H Q ⟨F, Γ, r, q⟩ => ⟨F, Γ, r, ?_⟩
  refine (Po.bind (R := vrA c.M) q).imp fun vs H1 ⟨F1, Γ1, os, r1, e1, a1, q1⟩ => ?_
  unfold dispR at q1
  split at q1
  · rename_i ds hd
    split at q1
    · rename_i hl
      have hr := dats_reps hd a1
      refine ⟨by rw [hr.length]; exact hl, fun p n => ?_⟩
      have n2 : ¬ own σ Γ1 p := fun z => by
        obtain ⟨_, u, hu⟩ := r1.ownF z
        rw [n] at hu; cases hu
      have bk : own σ Γ p ∨ H p = none := e1.back (.inr n)
      exact q1 _ _ _ (r1.new n) (e1.trans (Ext.new n)) ⟨p, rfl, r1.fr n, n2, ⟨vs, upd_same, hr⟩, bk⟩
    · exact q1.elim
  · exact q1.elim
/-- *e in a list or a tuple -/
def starR (o : OV) (Γ : Ev) : Option (List D) :=
  match o.get Γ with
  | some (.lst l) => some l
  | some (.tup l) => some l
  | some (.fz l) => some l
  | _ => none
def starA (f : Ev → Rs OV) (g : Ev → Rs (List OV)) : Ev → Rs (List OV) := fun Γ => (f Γ).bind fun o Γ1 => match starR o Γ1 with
  | some l => (g Γ1).bind fun os Γ => .ok (l.map .dat ++ os) Γ
  | none => .bad
theorem ovs_of_reps {M : Md} {σ : L2.St} {F : Hp} : ∀ {l : List D} {xs : List V}, Reps M F l xs → ovsR M σ F xs (l.map .dat)
  | [], _, h => by cases reps_nil.mp h; trivial
  | d :: l, _, h => by
    obtain ⟨v, r, rfl, h1, h2⟩ := reps_cons.mp h
    exact ⟨h1, ovs_of_reps h2⟩
theorem ovs_append {M : Md} {σ : L2.St} {F : Hp} : ∀ {vs ws : List V} {os ps : List OV}, ovsR M σ F vs os → ovsR M σ F ws ps → ovsR M σ F (vs ++ ws) (os ++ ps)
  | [], _, [], _, _, h => h
  | [], _, _ :: _, _, h, _ => h.elim
  | _ :: _, _, [], _, h, _ => h.elim
  | _ :: _, _, _ :: _, _, h, h2 => ⟨h.1, ovs_append h.2 h2⟩
theorem star_rep {M : Md} {σ0 σ : L2.St} {F H : Hp} {Γ : Ev} (r : Rel M σ0 F H σ Γ) {o : OV} {l : List D} {v : V} (h : starR o Γ = some l) (hv : ovR M σ F v o) : ∃ p xs, v = .ref p ∧ (SqT M.K H p xs ∨ SqL M.K H p xs) ∧ Reps M F l xs := by
  unfold starR at h
  split at h
  · rename_i l' e; cases h
    obtain ⟨a, xs, rfl, h1, h2⟩ := r1_lst (get_rep r e hv)
    exact ⟨a, xs, rfl, .inr (SqL.of h1), h2⟩
  · rename_i l' e; cases h
    obtain ⟨a, xs, rfl, h1, h2⟩ := r1_tup (get_rep r e hv)
    exact ⟨a, xs, rfl, .inl (Evl.ex_t r.sub h1), h2⟩
  · rename_i l' e; cases h
    obtain ⟨a, xs, rfl, h1, h2⟩ := r1_fz (get_rep r e hv)
    exact ⟨a, xs, rfl, .inr (Evl.ex_l r.sub h1), h2⟩
  · cases h
theorem da_star {p : Pos} {f : Ev → Rs OV} {g : Ev → Rs (List OV)} (hM : c.M = ⟨X.K, X.mg⟩) (h1 : DB X c e f) (h2 : DA X c es g) (hs : starEach (.Starred e p :: es) X.env = (true, eval e X.env) :: starEach es X.env := by rfl) : DA X c (.Starred e p :: es) (starA f g) := by
  refine PA.of (StX.pa_star h1 h2 hs) fun σ H Q ⟨F, Γ, r, q⟩ => ⟨F, Γ, r, ?_⟩
  refine (Po.bind (R := vrB c.M) q).imp fun v H1 ⟨F1, Γ1, o, r1, e1, a1, q1⟩ => ?_
  split at q1
  · rename_i l hl
    obtain ⟨p, xs, rfl, h3, h4⟩ := star_rep r1 hl a1
    have h5 : SqT X.K H1 p xs ∨ SqL X.K H1 p xs := by rw [hM] at h3; exact h3
    refine ⟨p, xs, rfl, h5, F1, Γ1, r1, ?_⟩
    refine (Po.bind (R := vrA c.M) (Po.shift sh_A e1 q1)).imp fun vs H2 ⟨F2, Γ2, os, r2, e2, a2, q2⟩ => ?_
    exact q2 F2 H2 (xs ++ vs) r2 e2 (ovs_append (ovs_of_reps (h4.mono e2.ff)) a2)
  · exact q1.elim
def gFld (f : Str) (cs : List Str) : D → Option AV
  | .ins n l => if n ∈ cs then (l.lookup f).map .dat else none
  | _ => none
/-- f is a field of instances of these classes -/
def FldOk (M : Md) (f : Str) (cs : List Str) : Prop := ∀ n ∈ cs, ∀ C, M.mg n = some (.ref C) → Cls M.K C ∧ NoAttr M.K C f
theorem repF_nil {M : Md} {F : Hp} {xs : List (Str × V)} : RepF M F [] xs ↔ xs = [] := by unfold RepF; exact Iff.rfl
theorem repF_cons {M : Md} {F : Hp} {p : Str × D} {l : List (Str × D)} {xs : List (Str × V)} : RepF M F (p :: l) xs ↔ ∃ v r, xs = (p.1, v) :: r ∧ Rep M F p.2 v ∧ RepF M F l r := by rw [RepF]
theorem RepF.look {M : Md} {F : Hp} {f : Str} {d : D} : ∀ {l : List (Str × D)} {xs : List (Str × V)}, RepF M F l xs → l.lookup f = some d → ∃ v, xs.lookup f = some v ∧ Rep M F d v
  | [], _, h, e => by cases e
  | p :: l, _, h, e => by
    obtain ⟨v, r, rfl, h1, h2⟩ := repF_cons.mp h
    obtain ⟨k, d'⟩ := p
    rw [List.lookup_cons] at e ⊢
    cases q : f == k with
    | true =>
      rw [q] at e
      cases e
      exact ⟨v, rfl, h1⟩
    | false =>
      rw [q] at e
      exact RepF.look h2 e
theorem do_fld {f : Str} {cs : List Str} {g : Ev → Rs OV} (ho : FldOk ⟨X.K, X.mg⟩ f cs) (hM : c.M = ⟨X.K, X.mg⟩) (h : DB X c e g) (hb : attributeBase e f X.env (eval e X.env) = eval e X.env := by rfl) : DO X c (.Attribute e f pos) (op1 (gFld f cs) g) := by
  refine PE.of (pe_fld h hb) fun σ H Q q => ?_
  refine rd_op1 (r := fun x H1 Q => ∃ a C dx fs v, x = .ref a ∧ H1 a = some (.ins C dx fs) ∧ Cls X.K C ∧ NoAttr X.K C f ∧ fs.lookup f = some v ∧ Q v H1) ?_ q
  intro F H x d av Q sub r1 e h
  unfold gFld at e
  split at e
  · rename_i n l
    split at e
    · rename_i hn
      obtain ⟨d, e1, rfl⟩ := Option.map_eq_some_iff.mp e
      obtain ⟨a, C, dx, fs, rfl, h1, h2, h3⟩ := r1
      rw [hM] at h1
      obtain ⟨k1, k2⟩ := ho n hn C h1
      obtain ⟨v, h4, h5⟩ := h3.look e1
      exact ⟨a, C, dx, fs, v, rfl, h2, k1, k2, h4, fin_dat sub h h5⟩
    · cases e
  · cases e
end
end Nv
-- N7
namespace Nv
open PySem PySem.Spec PyProof.Rows L2
open Evl (Ex)
def chV (z : Str) : List V := z.cps.toList.map fun c => .str ⟨#[c]⟩
/-- G: the source stands as xs -/
inductive SeqG (K : PySem.W.Frag) : V → List V → (Hp → Prop) → Prop where
  | l (a : Addr) (xs : List V) : SeqG K (.ref a) xs fun H => SqL K H a xs
  | t (a : Addr) (xs : List V) : SeqG K (.ref a) xs fun H => SqT K H a xs
  | s (z : Str) : SeqG K (.str z) (chV z) fun _ => True
theorem SeqG.mono {K : PySem.W.Frag} {x : V} {xs : List V} {G : Hp → Prop} (h : SeqG K x xs G) {H H' : Hp} (g : G H) (e : Ex H H') : G H' := by
  cases h with
  | l a xs => exact Evl.ex_l e g
  | t a xs => exact Evl.ex_t e g
  | s z => trivial
theorem chV_len (z : Str) : (chV z).length = z.cps.size := by unfold chV; simp
theorem walk_chV {z : Str} : Walk (Its z) (chV z).length (fun _ => True) (YAt (chV z)) := by
  rw [chV_len]
  refine walk_str.mono (fun _ h => h) fun i H x H' _ _ ⟨h1, c, h2, h3⟩ => ⟨h1, ?_⟩
  unfold chV
  rw [List.getElem?_map, Array.getElem?_toList, h2, h3]
  rfl
/-- .. or a locked dict, by its keys -/
inductive SeqG2 (K : PySem.W.Frag) : V → List V → (Hp → Prop) → Prop where
  | q {x : V} {xs : List V} {G : Hp → Prop} (h : SeqG K x xs G) : SeqG2 K x xs G
  | d (a : Addr) (od : Obj) (kvs : List (Key × V)) : SeqG2 K (.ref a) (kvs.map fun kv => kV kv.1) fun H => H a = some (.frz od (.dK kvs))
def iSeq2 (K : PySem.W.Frag) (tl : TE) : TI := fun σ H R => tl σ H fun x H1 => ∃ xs G, SeqG2 K x xs G ∧ G H1 ∧ ∀ J, Walk J xs.length G (YAt xs) → R J H1
theorem walk_keysA {d : Addr} {o : Obj} {kvs : List (Key × V)} : Walk (Itk d o kvs) (kvs.map fun kv => kV kv.1).length (fun H => H d = some (.frz o (.dK kvs))) (YAt (kvs.map fun kv => kV kv.1)) := by
  rw [List.length_map]
  refine walk_keys.mono (fun _ h => h) fun i H x H' _ _ ⟨h1, k, v, h2, h3⟩ => ⟨h1, ?_⟩
  rw [List.getElem?_map, h2, h3]
  rfl
theorem pi_seq2 {X : Cx} {tg e : Expr} {te : TE} (he : PE X e te) : PI X tg e (iSeq2 X.K te) := by
  refine ⟨fun pins s σ H R I h => ?_⟩
  refine thn (he.run pins s σ H _ I h) fun v s1 ⟨y, H1, I1, r1, xs, G, sg, g, q⟩ => ?_
  cases sg with
  | q sg =>
    cases sg with
    | l a xs =>
      cases r1
      obtain ⟨its, rv, p, hz⟩ := I1.list g
      refine wpAny_pyIter_list p.isList ?_
      exact pi_one (tk := s1.toks) I1 _ (turn_list a _) ⟨_, Heap.get?_push_size _ rfl, rfl, rfl⟩ (q _ walk_list)
    | t a xs =>
      cases r1
      obtain ⟨its, rv, p, hz⟩ := I1.tuple g
      refine wpAny_pyIter_tuple (show s1.heap.IsTuple a its.toArray from p) ?_
      exact pi_one (tk := s1.toks) I1 _ (turn_tuple a _) ⟨_, Heap.get?_push_size _ rfl, rfl, rfl⟩ (q _ walk_tup)
    | s z =>
      obtain ⟨t, rfl⟩ := r1
      cases ha : z.cps.all (· < 128)
      · exact wpAny_pyIter_wide ha (pi_one (tk := s1.toks) I1 _ (turn_str _ z t "str_iterator" (.inr rfl)) ⟨_, Heap.get?_push_size _ rfl, rfl, rfl⟩ (q _ walk_chV))
      · exact wpAny_pyIter_ascii ha (pi_one (tk := s1.toks) I1 _ (turn_str _ z t "str_ascii_iterator" (.inl rfl)) ⟨_, Heap.get?_push_size _ rfl, rfl, rfl⟩ (q _ walk_chV))
  | d a od kvs =>
    cases r1
    obtain ⟨hs, hgd, hx, es, ep, vs, hdt, hsz, kv, hm⟩ := I1.frzK g
    refine iter_keys hs hgd hx hdt (pi_one (tk := s1.toks) I1 _ (turn_keys _ hdt) ⟨_, Heap.get?_push_size _ rfl, rfl, ?_⟩ (q _ walk_keysA))
    rw [hsz] <;> rfl
/-- what an inner iterator draws, told over the abstract heap -/
structure Inner (P : Program) (w : World) (K : PySem.W.Frag) (it : Addr) (G : Hp → Prop) (xs : List V) (tn : Nat → Heap → Prop) : Prop where
  obj : ∀ i h, tn i h → ∃ o, h.get? it = some o ∧ ∀ v, o.data ≠ .cell v
  keep : ∀ i h h', tn i h → (∀ o, h.get? it = some o → h'.get? it = some o) → tn i h'
  draws : ∀ (X : Cx), X.prog = P → X.w = w → X.K = K → X.calm = true → ∀ (pins : List (Addr × Obj)) (s : Shared) (σ : L2.St) (H : Hp), L2.Inv X pins σ H s → H it = none → G H → ∀ i, tn i s.heap →
    ∃ (fp : List Addr) (Pv : Nat → Value → Prop) (St : Nat → Heap → Prop), Draws P w X.A.in1 it fp xs.length Pv St ∧ (∀ b ∈ fp, b = it ∨ ∃ u, H b = some u ∨ K.lookup b ≠ none) ∧ St i s.heap ∧ (∀ i h, St i h → tn i h) ∧ ∀ i u, Pv i u → ∃ v, xs[i]? = some v ∧ RelV v u
def YEnum (k0 : Int) (xs : List V) : Nat → Hp → V → Hp → Prop := fun i H v H' => ∃ T x, v = .ref T ∧ H T = none ∧ H' = upd H T (.tup [.int (k0 + (i : Nat)), x]) ∧ xs[i]? = some x
def ItEn (k0 : Int) (G : Hp → Prop) (xs : List V) : It :=
  ⟨fun i H => i < xs.length ∧ G H, YEnum k0 xs, fun i H => i = xs.length ∧ G H⟩
theorem walkEn {k0 : Int} {G : Hp → Prop} {xs : List V} : Walk (ItEn k0 G xs) xs.length G (YEnum k0 xs) := ⟨fun i H hi h => ⟨hi, h⟩, fun H h => ⟨rfl, h⟩, fun i H v H' _ _ y => y⟩
theorem turn_enA {P : Program} {w : World} {K : PySem.W.Frag} {elts : List Expr} {kk : Nat} {tpos : Pos} {k0 : Int} {G : Hp → Prop} {xs : List V} {e it : Addr} {tn : Nat → Heap → Prop} (In : Inner P w K it G xs tn) :
    Turn P w K (.Tuple elts kk tpos) (ItEn k0 G xs) [e, it] e (fun i h => (∃ old, IsEnum h e it (k0 + (i : Nat)) old) ∧ tn i h ∧ e ≠ it) where
  mem := by simp
  obj := fun i h st b hb => by
    obtain ⟨⟨old, he⟩, ht, _⟩ := st
    have e' : b = e ∨ b = it := by simpa using hb
    rcases e' with z | z
    · rw [z]; exact ⟨_, he, fun v q => nomatch q⟩
    · rw [z]; exact In.obj i h ht
  keep := fun i h h' st k => let ⟨⟨old, he⟩, hi, hne⟩ := st; ⟨⟨old, k e (by simp) _ he⟩, In.keep i h h' hi fun o q => k it (by simp) o q, hne⟩
  item := by
    intro X hP hw hK hc i pins s σ H E I hf st hg
    obtain ⟨⟨old, he⟩, hit, hne⟩ := st
    obtain ⟨hi, hq⟩ := hg
    obtain ⟨fp, Pv, St, D, hfp, hst, hback, hval⟩ := In.draws X hP hw hK hc pins s σ H I (hf it (by simp)).1 hq i hit
    subst hP hw hK
    have hel : e < s.heap.objs.size := Heap.lt_size he
    have hil : it < s.heap.objs.size := by obtain ⟨o, q, _⟩ := In.obj i _ hit; exact Heap.lt_size q
    have heH : H e = none := (hf e (by simp)).1
    have hef : e ∉ fp := fun hm => by
      rcases hfp e hm with z | ⟨u, z | z⟩
      · exact hne z
      · rw [heH] at z; cases z
      · -- a written object is not ours
        have f := (hf e (by simp))
        cases hk : X.K.lookup e with
        | none => exact z hk
        | some o =>
          have hb := I.ok.mod.kin e o hk
          have h4 := f.2.2.2.1
          rcases h4 with h4 | h4
          · exact I.ok.noex e o hb h4
          · have := Heap.lt_size hb
            exact absurd (Nat.lt_of_lt_of_le this (Nat.le_trans I.ok.bsz h4)) (Nat.lt_irrefl _)
    refine wpAny_pyNext_enum_itemC D he hst hi hne hef fun xv h' tk hPx ho hst' hT hsz hk => ?_
    obtain ⟨v, hv, ru⟩ := hval i xv hPx
    refine ⟨_, rfl, wpAny_letOwnedTupleGo_enum (s := { s with heap := h', toks := tk + 1 }) ho fun h'' he' sb => ?_⟩
    have hT2 : h''.get? s.heap.objs.size = some { cls := .type "tuple", data := .seq #[.int (k0 + (i : Nat)) tk, xv] } := (sb.2 _ (Nat.ne_of_gt hel)).trans hT
    have new : ObjOk X.prog X.w (upd H s.heap.objs.size (.tup [.int (k0 + (i : Nat)), v])) h'' s.heap.objs.size (.tup [.int (k0 + (i : Nat)), v]) :=
      ⟨by show 2 ≤ sizeLine; decide, [.int (k0 + (i : Nat)) tk, xv], .cons ⟨_, rfl⟩ (.cons ru .nil), ⟨_, hT2, rfl, _, rfl⟩⟩
    have I1 : L2.Inv X pins σ (upd H s.heap.objs.size (.tup [.int (k0 + (i : Nat)), v])) { s with heap := h'', toks := tk + 1 } :=
      I.turnedNew (ch := [e, it]) (fun b ob hb q => (sb.2 b (fun z => hb (by simp [z]))).trans (hk b ob (fun z => hb (by simp [z])) (fun z => hb (by simp [z])) q)) hf (Nat.le_refl _) new
    refine ⟨.ref s.heap.objs.size, _, I1, rfl, ⟨_, v, rfl, I.hok.fresh (Nat.le_refl _), rfl, hv⟩, ⟨⟨xv, ?_⟩, In.keep _ _ _ (hback _ _ hst') fun o q => (sb.2 it (Ne.symm hne)).trans q, hne⟩, fun b hb => ?_⟩
    · have e1 : k0 + ((i + 1 : Nat) : Int) = k0 + (i : Int) + 1 := by omega
      rw [e1]; exact he'
    · have hb' : b < s.heap.objs.size := by
        have e' : b = e ∨ b = it := by simpa using hb
        rcases e' with z | z
        · rw [z]; exact hel
        · rw [z]; exact hil
      rw [upd_ne (Nat.ne_of_lt hb')]
      exact (hf b hb).1
  done := by
    intro X hP hw hK hc i pins s σ H E I hf st hg
    obtain ⟨⟨old, he⟩, hit, hne⟩ := st
    obtain ⟨hi, hq⟩ := hg
    obtain ⟨fp, Pv, St, D, hfp, hst, hback, hval⟩ := In.draws X hP hw hK hc pins s σ H I (hf it (by simp)).1 hq i hit
    subst hP hw hK
    obtain ⟨f0, f1, f2, f3, f4, f5⟩ := hf it (by simp)
    rw [hi] at hst
    exact wpAny_pyNext_enum_endD D he hst fun h' eb => ⟨rfl, I.turned (t' := s.toks) (fun b o hb q => eb b o hb q) f0 f1 f3 f4 f5⟩
  self := fun A i s Q E st h => let ⟨⟨_, he⟩, _⟩ := st; wpAny_pyIter_enum he h
theorem in_list {P : Program} {w : World} {K : PySem.W.Frag} {it a : Addr} {xs : List V} : Inner P w K it (fun H => SqL K H a xs) xs (fun i h => h.IsListIter it a i) where
  obj := fun i h st => by
    obtain ⟨o, ho, hc, hd⟩ := st
    exact ⟨o, ho, fun v q => by rw [hd] at q; cases q⟩
  keep := fun i h h' st k => st.at fun o q => k o q
  draws := by
    intro X hP hw hK hc pins s σ H I hn g i st
    subst hP hw hK
    obtain ⟨its, rv, p, hz⟩ := I.list g
    have hai : a ≠ it := fun z => by
      subst z
      rcases g with (g | ⟨o, g⟩) | ⟨o, _, _, g, _⟩
      · rw [hn] at g; cases g
      · rw [hn] at g; cases g
      · obtain ⟨o', ho', hc', hd'⟩ := st
        obtain ⟨o2, n2, e2, c2, _⟩ := p
        rw [ho'] at e2
        cases e2
        rw [hc'] at c2
        exact absurd (Value.type.inj c2) (by decide)
    have hl : xs.length = its.toArray.size := by rw [rv.length, List.size_toArray]
    rw [hl]
    refine ⟨[it, a], _, _, Draws.list (A := X.A.in1) (I.ok.hd hc) it a hai its.toArray, fun b hb => ?_, ⟨st, p.isList⟩, fun i h st => st.1, fun i u hu => ?_⟩
    · have e' : b = it ∨ b = a := by simpa using hb
      rcases e' with z | z
      · exact .inl z
      · subst z
        rcases g with (g | ⟨o, g⟩) | ⟨o, _, _, g, _⟩
        · exact .inr ⟨_, .inl g⟩
        · exact .inr ⟨_, .inl g⟩
        · exact .inr ⟨.lst [], .inr (by rw [g]; exact fun z => nomatch z)⟩
    · have hu' : its[i]? = some u := by simpa using hu
      have hi : i < xs.length := by
        rw [rv.length]
        exact (List.getElem?_eq_some_iff.mp hu').1
      obtain ⟨u2, e1, e2⟩ := rv.get (List.getElem?_eq_getElem hi)
      rw [hu'] at e1; cases e1
      exact ⟨_, List.getElem?_eq_getElem hi, e2⟩
theorem in_tup {P : Program} {w : World} {K : PySem.W.Frag} {it a : Addr} {xs : List V} : Inner P w K it (fun H => SqT K H a xs) xs (fun i h => h.IsTupleIter it a i) where
  obj := fun i h st => by
    obtain ⟨o, ho, hc, hd⟩ := st
    exact ⟨o, ho, fun v q => by rw [hd] at q; cases q⟩
  keep := fun i h h' st k => let ⟨o, ho, r⟩ := st; ⟨o, k o ho, r⟩
  draws := by
    intro X hP hw hK hc pins s σ H I hn g i st
    subst hP hw hK
    obtain ⟨its, rv, p, hz⟩ := I.tuple g
    have hai : a ≠ it := fun z => by
      subst z
      rcases g with (g | ⟨o, g⟩) | ⟨o, _, _, g, _⟩
      · rw [hn] at g; cases g
      · rw [hn] at g; cases g
      · obtain ⟨o', ho', hc', hd'⟩ := st
        obtain ⟨o2, e2, c2, _⟩ := p
        rw [ho'] at e2
        cases e2
        rw [hc'] at c2
        exact absurd (Value.type.inj c2) (by decide)
    have hl : xs.length = its.toArray.size := by rw [rv.length, List.size_toArray]
    rw [hl]
    refine ⟨[it, a], _, _, Draws.tuple (A := X.A.in1) (I.ok.hd hc) it a hai its.toArray, fun b hb => ?_, ⟨st, p⟩, fun i h st => st.1, fun i u hu => ?_⟩
    · have e' : b = it ∨ b = a := by simpa using hb
      rcases e' with z | z
      · exact .inl z
      · subst z
        rcases g with (g | ⟨o, g⟩) | ⟨o, _, _, g, _⟩
        · exact .inr ⟨_, .inl g⟩
        · exact .inr ⟨_, .inl g⟩
        · exact .inr ⟨.lst [], .inr (by rw [g]; exact fun z => nomatch z)⟩
    · have hu' : its[i]? = some u := by simpa using hu
      have hi : i < xs.length := by
        rw [rv.length]
        exact (List.getElem?_eq_some_iff.mp hu').1
      obtain ⟨u2, e1, e2⟩ := rv.get (List.getElem?_eq_getElem hi)
      rw [hu'] at e1; cases e1
      exact ⟨_, List.getElem?_eq_getElem hi, e2⟩
theorem in_str {P : Program} {w : World} {K : PySem.W.Frag} {it : Addr} {z : Str} {t : Tok} : Inner P w K it (fun _ => True) (chV z) (fun i h => h.IsStrIter it (strIterType z) z t i) where
  obj := fun i h st => by
    obtain ⟨o, ho, hc, hd⟩ := st
    exact ⟨o, ho, fun v q => by rw [hd] at q; cases q⟩
  keep := fun i h h' st k => let ⟨o, ho, r⟩ := st; ⟨o, k o ho, r⟩
  draws := by
    intro X hP hw hK hc pins s σ H I hn g i st
    subst hP hw hK
    rw [chV_len]
    refine ⟨[it], _, _, Draws.text (A := X.A.in1) (I.ok.hd hc) it z t, fun b hb => .inl (by simpa using hb), st, fun i h st => st, fun i u hu => ?_⟩
    obtain ⟨c, u2, h1, rfl⟩ := hu
    refine ⟨.str ⟨#[c]⟩, ?_, u2, rfl⟩
    unfold chV
    rw [List.getElem?_map, Array.getElem?_toList, h1]
    rfl
end Nv
namespace PySem
open Sem (wp)
set_option maxHeartbeats 4000000 in
theorem nv_meets_enum {v : Value} {o : Obj} {H : Heap → Prop} (B : Begins v o H) :
    Meets (Builtin.«enumerate.__new__» ⟨[.type "enumerate", v], []⟩) (fun _ R s => H s.heap ∧
      R (.ok (.ret (.ref (s.heap.push o).objs.size))) { s with heap := (s.heap.push o).push { cls := .type "enumerate", data := .fields #[.none, .bool false, .ref s.heap.objs.size, rawInt 0, .none, .none] } }) :=
  .of_wp fun prog w A R s h => by
    obtain ⟨hp, g, d, tk, os⟩ := s; obtain ⟨h1, h⟩ := h
    have hsub := sub_enumerate
    have q1 : ∀ {A' : Around} {E : Value → Shared → Prop} {Q : Value → Shared → Prop}, Q (.ref hp.objs.size) ⟨hp.push o, g, d, tk, os⟩ → wpAny (model prog w) A' (pyIter v) Q E ⟨hp, g, d, tk, os⟩ :=
      fun q => B.iter prog w _ _ ⟨hp, g, d, tk, os⟩ _ h1 q
    wp_walk using q1
    refine wpAny_stack_any fun st => wpAny_pure ?_
    split
    · rename_i c _ _ _ _ _
      cases (c == Value.type "enumerate")
      · wp_walk using q1
        exact ⟨_, rfl, h⟩
      · wp_walk using q1
        exact ⟨_, rfl, h⟩
    · wp_walk using q1
      exact ⟨_, rfl, h⟩
section
variable {prog : Program} {w : World} {A : Around} {E : Value → Shared → Prop} {s : Shared}
/-- enumerate(v): its two new cells -/
theorem nv_enum_begins {v : Value} {o : Obj} {H : Heap → Prop} {Q : Value → Shared → Prop} (B : Begins v o H) (h1 : H s.heap)
    (h : ∀ h', IsEnum h' (s.heap.objs.size + 1) s.heap.objs.size 0 .none → h'.get? s.heap.objs.size = some o → h'.objs.size = s.heap.objs.size + 2 →
      (∀ b o, s.heap.get? b = some o → h'.get? b = some o) → Q (.ref (s.heap.objs.size + 1)) { s with heap := h' }) :
    wpAny (model prog w) A (call (.type "enumerate") [v]) Q E s := by
  refine callType_new F.called_enumerate (by decide) (F.typeCall_enumerate_1 _) (F.newCall_enumerate_1 _) (fun obj => F.args_object_init_2 obj _) F.entry_enumerate_new
    (nv_meets_enum B) ⟨h1, ?_⟩
  have hz : (s.heap.push o).objs.size = s.heap.objs.size + 1 := Heap.size_push ..
  show _ ∧ _
  rw [hz]
  have he : IsEnum ((s.heap.push o).push { cls := .type "enumerate", data := .fields #[.none, .bool false, .ref s.heap.objs.size, rawInt 0, .none, .none] }) (s.heap.objs.size + 1) s.heap.objs.size 0 .none := by
    have := Heap.get?_push_size (s.heap.push o) (o := { cls := .type "enumerate", data := .fields #[.none, .bool false, .ref s.heap.objs.size, rawInt 0, .none, .none] }) rfl
    rw [hz] at this; exact this
  refine ⟨⟨_, he, rfl⟩, h _ he (Heap.get?_push_of_some _ (Heap.get?_push_size _ B.free)) (by rw [Heap.size_push, hz]) fun b o x => Heap.get?_push_of_some _ (Heap.get?_push_of_some _ x)⟩
end
end PySem
namespace Nv
open PySem PySem.Spec PyProof.Rows L2
open Evl (Ex)
def iEnA (K : PySem.W.Frag) (ta : TA) : TI := fun σ H R => ta σ H fun vs H1 => ∃ x xs G, vs = [x] ∧ SeqG K x xs G ∧ G H1 ∧ ∀ J, Walk J xs.length G (YEnum 0 xs) → R J H1
theorem pie_enum {X : Cx} {elts : List Expr} {kk : Nat} {tpos : Pos} {pins : List (Addr × Obj)} {σ : L2.St} {H : Hp} {s : Shared} {R : It → Hp → Prop} {G : Hp → Prop} {xs : List V} {tn : Nat → Heap → Prop} {o : Obj} {h' : Heap} (I : L2.Inv X pins σ H s)
    (In : Inner X.prog X.w X.K s.heap.objs.size G xs tn) (he : IsEnum h' (s.heap.objs.size + 1) s.heap.objs.size 0 .none) (ho : tn 0 h')
    (hk : ∀ b o, s.heap.get? b = some o → h'.get? b = some o) (q : ∀ J, Walk J xs.length G (YEnum 0 xs) → R J H) :
    wpAny (model X.prog X.w) X.A (pyIter (.ref (s.heap.objs.size + 1))) (PIE X pins σ (.Tuple elts kk tpos) R) X.xe { s with heap := h' } := by
  have I2 : L2.Inv X pins σ H { s with heap := h' } := I.kept (t' := s.toks) hk
  refine wpAny_pyIter_enum he ?_
  refine ⟨s.heap.objs.size + 1, [s.heap.objs.size + 1, s.heap.objs.size], _, _, H, rfl, I2, turn_enA (k0 := 0) In, ⟨⟨.none, he⟩, ho, Nat.succ_ne_self _⟩, fun b hb => ?_, q _ walkEn⟩
  have e' : b = s.heap.objs.size + 1 ∨ b = s.heap.objs.size := by simpa using hb
  have hle : s.heap.objs.size ≤ b := by
    rcases e' with z | z
    · rw [z]; exact Nat.le_add_right _ _
    · rw [z]; exact Nat.le_refl _
  exact I.fpOk hle (I.hok.fresh hle)
theorem pi_enA {X : Cx} {e : Expr} {ta : TA} {p pos tpos : Pos} {elts : List Expr} {kk : Nat} (hg : Gl X "enumerate") (hm : X.mg "enumerate" = none) (ha : PA X [e] ta) (hs : starEach [e] X.env = [(false, eval e X.env)] := by rfl) :
    PI X (.Tuple elts kk tpos) (.Call (.Name "enumerate" p) [e] [] pos) (iEnA X.K ta) := by
  refine ⟨fun pins s σ H R I h => ?_⟩
  refine Call_ (ld_blt I hg hm boot_enumerate (PyProof.Rows.callWith_type1 (thn (ha.run pos pins s σ H _ I h) fun us s1 ⟨vs, H1, I1, r1, x, xs, G, ex, sg, g, q⟩ => ?_) hs rfl))
  subst ex
  obtain ⟨u, rfl, ru⟩ := vals1 r1
  cases sg with
  | l a xs =>
    cases ru
    obtain ⟨its, rv, p', hz⟩ := I1.list g
    exact nv_enum_begins (begins_list a its.toArray) p'.isList fun h' he hit hsz hk => pie_enum (o := ⟨.none, none, .plain, #[]⟩) I1 in_list he ⟨_, hit, rfl, rfl⟩ hk q
  | t a xs =>
    cases ru
    obtain ⟨its, rv, p', hz⟩ := I1.tuple g
    exact nv_enum_begins (begins_tuple a its.toArray) p' fun h' he hit hsz hk => pie_enum (o := ⟨.none, none, .plain, #[]⟩) I1 in_tup he ⟨_, hit, rfl, rfl⟩ hk q
  | s z =>
    obtain ⟨t, rfl⟩ := ru
    exact nv_enum_begins (begins_text z t) trivial fun h' he hit hsz hk => pie_enum (o := ⟨.none, none, .plain, #[]⟩) I1 (in_str (t := t)) he ⟨_, hit, rfl, rfl⟩ hk q
end Nv
-- N8
namespace Nv
open PySem PySem.Spec PyProof.Rows L2
open Evl (Ex)
inductive Out where
  | nx (Γ : Ev) | bk (Γ : Ev) | ct (Γ : Ev) | rt (av : AV) (Γ : Ev) | ex (n : Str) (l : List (Str × D)) (Γ : Ev) | bad
def PoS (c : Cf) (σ : L2.St) (F H : Hp) (Γ : Ev) (r : Out) (De : Ends) : Prop :=
  match r with
  | .nx Γ' => ∀ σ' F' H', Rel c.M c.σ0 F' H' σ' Γ' → Ext (own σ Γ) F H (own σ' Γ') F' H' → De.nx σ' H'
  | .bk Γ' => ∀ σ' F' H', Rel c.M c.σ0 F' H' σ' Γ' → Ext (own σ Γ) F H (own σ' Γ') F' H' → De.bk σ' H'
  | .ct Γ' => ∀ σ' F' H', Rel c.M c.σ0 F' H' σ' Γ' → Ext (own σ Γ) F H (own σ' Γ') F' H' → De.ct σ' H'
  | .rt av Γ' => ∀ σ' F' H' v, Rel c.M c.σ0 F' H' σ' Γ' → Ext (own σ Γ) F H (own σ' Γ') F' H' → AVR c.M (own σ Γ) H F' H' (own σ' Γ') v av → De.rt v H'
  | .ex n l Γ' => ∀ σ' F' H' C dx, Rel c.M c.σ0 F' H' σ' Γ' → Ext (own σ Γ) F H (own σ' Γ') F' H' → c.M.mg n = some (.ref C) → XR c.M F' l dx → c.W (.ref C) dx σ' H'
  | .bad => False
def tS (c : Cf) (f : Ev → Out) : TS := fun De σ H => ∃ F Γ, Rel c.M c.σ0 F H σ Γ ∧ PoS c σ F H Γ (f Γ) De
abbrev DS (X : Cx) (c : Cf) (s : Stmt) (f : Ev → Out) : Prop := PS X s (tS c f)
abbrev DSs (X : Cx) (c : Cf) (s : List Stmt) (f : Ev → Out) : Prop := PSs X s (tS c f)
theorem PS.of {X : Cx} {s : Stmt} {t t' : TS} (h : PS X s t) (i : ∀ De σ H, t' De σ H → t De σ H) : PS X s t' := ⟨fun pins st σ H De I q => h.run pins st σ H De I (i De σ H q)⟩
theorem PSs.of {X : Cx} {s : List Stmt} {t t' : TS} (h : PSs X s t) (i : ∀ De σ H, t' De σ H → t De σ H) : PSs X s t' := ⟨fun pins st σ H De I q => h.run pins st σ H De I (i De σ H q)⟩
theorem AVR.shift {M : Md} {A A1 A' : Addr → Prop} {F H F1 H1 F' H' : Hp} {v : V} {av : AV} (e : Ext A F H A1 F1 H1) (h : AVR M A1 H1 F' H' A' v av) : AVR M A H F' H' A' v av := by
  cases av with
  | dat d => exact h
  | own o =>
    obtain ⟨p, h1, h2, h3, h4, h5⟩ := h
    exact ⟨p, h1, h2, h3, h4, e.back h5⟩
section
variable {c : Cf} {σ σ1 : L2.St} {F H F1 H1 : Hp} {Γ Γ1 : Ev} {De De' : Ends}
theorem PoS.shift {r : Out} (e : Ext (own σ Γ) F H (own σ1 Γ1) F1 H1) (h : PoS c σ F H Γ r De) : PoS c σ1 F1 H1 Γ1 r De := by
  cases r with
  | nx Γ' => exact fun σ' F' H' r1 e1 => h σ' F' H' r1 (e.trans e1)
  | bk Γ' => exact fun σ' F' H' r1 e1 => h σ' F' H' r1 (e.trans e1)
  | ct Γ' => exact fun σ' F' H' r1 e1 => h σ' F' H' r1 (e.trans e1)
  | rt av Γ' => exact fun σ' F' H' v r1 e1 a => h σ' F' H' v r1 (e.trans e1) (a.shift e)
  | ex n l Γ' => exact fun σ' F' H' C dx r1 e1 m x => h σ' F' H' C dx r1 (e.trans e1) m x
  | bad => exact h
def Rs.out {α : Type} (r : Rs α) (k : α → Ev → Out) : Out :=
  match r with
  | .ok a Γ => k a Γ
  | .ex n l Γ => .ex n l Γ
  | .bad => .bad
theorem PoS.out {α β : Type} {R : VRel α β} {r : Rs α} {k : α → Ev → Out} (h : PoS c σ F H Γ (r.out k) De) :
    Po c R σ F H Γ r (fun v H' => ∃ F' Γ' a, Rel c.M c.σ0 F' H' σ Γ' ∧ Ext (own σ Γ) F H (own σ Γ') F' H' ∧ R σ F H Γ F' H' Γ' v a ∧ PoS c σ F H Γ (k a Γ') De) := by
  cases r with
  | ok a Γ' => exact fun F' H' v r1 e1 v1 => ⟨F', Γ', a, r1, e1, v1, h⟩
  | ex n l Γ' => exact fun F' H' C dx r1 e1 m x => h σ F' H' C dx r1 e1 m x
  | bad => exact h
/-- what is done next -/
def Out.seq (o : Out) (g : Ev → Out) : Out :=
  match o with
  | .nx Γ => g Γ
  | o => o
theorem PoS.seq {r : Out} {g : Ev → Out} (h : PoS c σ F H Γ (r.seq g) De) : PoS c σ F H Γ r { De with nx := tS c g De } := by
  cases r with
  | nx Γ' => exact fun σ' F' H' r1 e1 => ⟨F', Γ', r1, PoS.shift e1 h⟩
  | bk Γ' => exact h
  | ct Γ' => exact h
  | rt av Γ' => exact h
  | ex n l Γ' => exact h
  | bad => exact h
end
section
variable {X : Cx} {c : Cf} {s : Stmt} {ss : List Stmt} {e : Expr} {pos : Pos}
def nilS : Ev → Out := .nx
def seqS (f g : Ev → Out) : Ev → Out := fun Γ => (f Γ).seq g
theorem ds_nil : DSs X c [] nilS := PSs.of pss_nil fun De σ H ⟨F, Γ, r, q⟩ => q σ F H r Ext.refl
theorem ds_cons {f g : Ev → Out} (h1 : DS X c s f) (h2 : DSs X c ss g) : DSs X c (s :: ss) (seqS f g) :=
  PSs.of (pss_cons h1 h2) fun De σ H ⟨F, Γ, r, q⟩ => ⟨F, Γ, r, PoS.seq q⟩
theorem ds_one {f : Ev → Out} (h1 : DS X c s f) : DSs X c [s] f := pss_one h1
def exprS (f : Ev → Rs AV) : Ev → Out := fun Γ => (f Γ).out fun _ Γ => .nx Γ
theorem ds_expr {f : Ev → Rs AV} (h : DO X c e f) (hs : swapsWith e none pos.line X.env = pure false := by rfl) : DS X c (.Expr e pos) (exprS f) :=
  PS.of (ps_expr h hs) fun De σ H ⟨F, Γ, r, q⟩ => ⟨F, Γ, r, (PoS.out (R := vrO c.M) q).imp fun v H' ⟨F', Γ', a, r1, e1, _, q1⟩ => q1 σ F' H' r1 e1⟩
def retS (f : Ev → Rs AV) : Ev → Out := fun Γ => (f Γ).out fun av Γ => .rt av Γ
theorem ds_ret {f : Ev → Rs AV} (h : DO X c e f) : DS X c (.Return (some e) pos) (retS f) :=
  PS.of (ps_ret h) fun De σ H ⟨F, Γ, r, q⟩ => ⟨F, Γ, r, (PoS.out (R := vrO c.M) q).imp fun v H' ⟨F', Γ', a, r1, e1, a1, q1⟩ => q1 σ F' H' v r1 e1 a1⟩
def retN : Ev → Out := fun Γ => .rt (.dat .non) Γ
def ifS (t : Ev → Rs Bool) (f g : Ev → Out) : Ev → Out := fun Γ => (t Γ).out fun b Γ => if b = true then f Γ else g Γ
theorem ds_if {a b : List Stmt} {t : Ev → Rs Bool} {f g : Ev → Out} (ht : DT X c e t) (ha : DSs X c a f) (hb : DSs X c b g) : DS X c (.If e a b pos) (ifS t f g) :=
  PS.of (ps_if ht ha hb) fun De σ H ⟨F, Γ, r, q⟩ => ⟨F, Γ, r, (PoS.out (R := vrT) q).imp fun v H' ⟨F', Γ', a, r1, e1, a1, q1⟩ => by
    have a2 : v = a := a1
    subst a2
    cases v with
    | true => exact ⟨F', Γ', r1, PoS.shift e1 q1⟩
    | false => exact ⟨F', Γ', r1, PoS.shift e1 q1⟩⟩
def slotOf : AV → Slot
  | .dat d => .dat d
  | .own o => .own none o
/-- may this slot be set -/
def setOk (Γ : Ev) (i : Nat) : Bool :=
  match Γ[i]? with
  | some (.own (some _) _) => false
  | some _ => true
  | none => false
def setG (Γ : Ev) (i : Nat) (av : AV) : Option Ev := if setOk Γ i = true then some (Γ.set i (slotOf av)) else none
theorem set_rel {M : Md} {σ0 σ : L2.St} {F H : Hp} {Γ Γ' : Ev} {i : Nat} {av : AV} {v : V} {A0 : Addr → Prop} {H0 : Hp} (r : Rel M σ0 F H σ Γ) (h : setG Γ i av = some Γ') (a : AVR M A0 H0 F H (own σ Γ) v av) :
    Rel M σ0 F H (σ.set i (some v)) Γ' ∧ ∀ b, own (σ.set i (some v)) Γ' b → own σ Γ b ∨ A0 b ∨ H0 b = none := by
  unfold setG at h
  split at h
  · rename_i hok
    cases h
    have hi : i < Γ.length := by
      unfold setOk at hok
      cases q : Γ[i]? with
      | none => rw [q] at hok; cases hok
      | some g => exact (List.getElem?_eq_some_iff.mp q).1
    have hi2 : i < σ.length := by rw [r.len]; exact hi
    have at_i : ∀ {j t o}, (Γ.set i (slotOf av))[j]? = some (Slot.own t o) → (j = i ∧ av = .own o ∧ t = none) ∨ (j ≠ i ∧ Γ[j]? = some (Slot.own t o)) := fun {j t o} q => by
      by_cases z : i = j
      · subst z
        rw [List.getElem?_set_self hi] at q
        cases av with
        | dat d => cases q
        | own o' => cases q; exact .inl ⟨rfl, rfl, rfl⟩
      · rw [List.getElem?_set_ne z] at q
        exact .inr ⟨fun e => z e.symm, q⟩
    refine ⟨⟨r.sub, by rw [List.length_set, List.length_set]; exact r.len, fun j s g h1 h2 => ?_, fun j k t o t' o' b h1 h2 h3 h4 => ?_, r.tab⟩, fun b hb => ?_⟩
    · by_cases z : i = j
      · subst z
        rw [List.getElem?_set_self hi2] at h1
        rw [List.getElem?_set_self hi] at h2
        cases h1
        cases h2
        cases av with
        | dat d => exact ⟨v, rfl, a⟩
        | own o =>
          obtain ⟨p, rfl, x1, x2, x3, x4⟩ := a
          exact ⟨p, rfl, x1, x3, fun k hk => nomatch hk⟩
      · rw [List.getElem?_set_ne z] at h1
        rw [List.getElem?_set_ne z] at h2
        exact r.slot j s g h1 h2
    · rcases at_i h1 with ⟨e1, e2, _⟩ | ⟨n1, g1⟩
      · rcases at_i h2 with ⟨e3, _⟩ | ⟨n2, g2⟩
        · rw [e1, e3]
        · subst e1
          rw [List.getElem?_set_self hi2] at h3
          rw [List.getElem?_set_ne (Ne.symm n2)] at h4
          rw [e2] at a
          obtain ⟨p, x0, x1, x2, x3, x4⟩ := a
          cases h3
          cases x0
          exact absurd ⟨k, t', o', g2, h4⟩ x2
      · rw [List.getElem?_set_ne (Ne.symm n1)] at h3
        rcases at_i h2 with ⟨e3, e4, _⟩ | ⟨n2, g2⟩
        · subst e3
          rw [List.getElem?_set_self hi2] at h4
          rw [e4] at a
          obtain ⟨p, x0, x1, x2, x3, x4⟩ := a
          cases h4
          cases x0
          exact absurd ⟨j, t, o, g1, h3⟩ x2
        · rw [List.getElem?_set_ne (Ne.symm n2)] at h4
          exact r.sep j k t o t' o' b g1 g2 h3 h4
    · obtain ⟨j, t, o, h1, h2⟩ := hb
      rcases at_i h1 with ⟨e1, e2, _⟩ | ⟨n1, g1⟩
      · subst e1
        rw [List.getElem?_set_self hi2] at h2
        rw [e2] at a
        obtain ⟨p, x0, x1, x2, x3, x4⟩ := a
        cases h2
        cases x0
        exact .inr x4
      · rw [List.getElem?_set_ne (Ne.symm n1)] at h2
        exact .inl ⟨j, t, o, g1, h2⟩
  · cases h
/-- the new own ones were own, or are new -/
theorem Ext.own {A A' A'' : Addr → Prop} {F H F' H' : Hp} (e : Ext A F H A' F' H') (h : ∀ b, A'' b → A' b ∨ A b ∨ H b = none) : Ext A F H A'' F' H' :=
  ⟨e.ff, e.hh, e.fn, fun b z => (h b z).elim (e.aa b) id, e.k⟩
def optS (o : Option Ev) : Out := match o with
  | some Γ => .nx Γ
  | none => .bad
def setS (i : Nat) (f : Ev → Rs AV) : Ev → Out := fun Γ => (f Γ).out fun av Γ => optS (setG Γ i av)
theorem rd_set {i : Nat} {f : Ev → Rs AV} {De : Ends} {σ : L2.St} {H : Hp} (h : tS c (setS i f) De σ H) : tAsg (tR c (vrO c.M) f) (gName i) De σ H := by
  obtain ⟨F, Γ, r, q⟩ := h
  refine ⟨F, Γ, r, (PoS.out (R := vrO c.M) q).imp fun v H' ⟨F', Γ', av, r1, e1, a1, q1⟩ => ?_⟩
  cases hs : setG Γ' i av with
  | none => rw [hs] at q1; exact q1.elim
  | some Γ2 =>
    rw [hs] at q1
    obtain ⟨r2, o2⟩ := set_rel r1 hs a1
    exact q1 _ F' H' r2 (e1.own o2)
theorem ds_set {i : Nat} {x : Str} {pos' : Pos} {f : Ev → Rs AV} (hN : X.N.Nodup) (h : DO X c e f) (hi : X.N[i]? = some x := by rfl) (hx : Loc X.env.scope x := by first | exact .inl rfl | exact .inr rfl) (hs : swapsWith e (some (.Name x pos')) pos.line X.env = pure false := by rfl)
    (hf : X.fn x = true ∨ X.env.scope.names.lookup x = some .local := by first | exact .inl rfl | exact .inr rfl | assumption) : DS X c (.Assign [.Name x pos'] e pos) (setS i f) :=
  PS.of (ps_set hN hi hx h hs hf) fun De σ H q => rd_set q
/-- name op= e on ints -/
def augS (i : Nat) (g : Int → Int → Int) (f : Ev → Rs D) : Ev → Out := fun Γ =>
  match Γ[i]? with
  | some (.dat (.int a)) => (f Γ).out fun d Γ => (match d with
    | .int b => optS (setG Γ i (.dat (.int (g a b))))
    | _ => .bad)
  | _ => .bad
theorem ds_aug {i : Nat} {x : Str} {pos' : Pos} {op : Operator} {g : Int → Int → Int} {f : Ev → Rs D} (ho : PIp X op (ipI g)) (hN : X.N.Nodup) (h : DE X c e f) (hi : X.N[i]? = some x := by rfl) (hx : Loc X.env.scope x := by first | exact .inl rfl | exact .inr rfl)
    (hf : X.fn x = true ∨ X.env.scope.names.lookup x = some .local := by first | exact .inl rfl | exact .inr rfl | assumption) : DS X c (.AugAssign (.Name x pos') op e pos) (augS i g f) := by
  refine PS.of (ps_aug hN hi hx h ho hf) fun De σ H ⟨F, Γ, r, q⟩ => ?_
  unfold augS at q
  split at q
  · rename_i a hg
    obtain ⟨w, hw, hr⟩ := r.dat hg
    cases rep_int.mp hr
    refine ⟨_, hw, F, Γ, r, (PoS.out (R := vrD c.M) q).imp fun v H' ⟨F', Γ', d, r1, e1, a1, q1⟩ => ?_⟩
    split at q1
    · rename_i b
      cases rep_int.mp (show Rep c.M F' (.int b) v from a1)
      refine ⟨a, b, rfl, rfl, ?_⟩
      cases hs : setG Γ' i (.dat (.int (g a b))) with
      | none => rw [hs] at q1; exact q1.elim
      | some Γ2 =>
        rw [hs] at q1
        obtain ⟨r2, o2⟩ := set_rel (v := .int (g a b)) (A0 := own σ Γ) (H0 := H) r1 hs (show Rep _ _ _ _ from rep_int.mpr rfl)
        exact q1 _ F' H' r2 (e1.own o2)
    · exact q1.elim
  · exact q.elim
abbrev TgF := D → Ev → Option Ev
/-- what a target does with data; ts: the slots that it sets -/
def GSpec (c : Cf) (g : TG) (ts : List Nat) (f : TgF) : Prop :=
  ∀ σ F H Γ v d Γ' (Q : L2.St → Hp → Prop), Rel c.M c.σ0 F H σ Γ → Rep c.M F d v → f d Γ = some Γ' →
    (∀ σ', Rel c.M c.σ0 F H σ' Γ' → (∀ b, own σ' Γ' b → own σ Γ b) → (∀ vs, (∀ i ∈ ts, i ∈ vs) → wipe σ' vs = wipe σ vs) → Q σ' H) → g v σ H Q
abbrev TgsF := List D → Ev → Option Ev
def GsSpec (c : Cf) (g : TGs) (n : Nat) (ts : List Nat) (f : TgsF) : Prop :=
  (∀ l Γ Γ', f l Γ = some Γ' → l.length = n) ∧
  ∀ σ F H Γ xs l Γ' (Q : L2.St → Hp → Prop), Rel c.M c.σ0 F H σ Γ → Reps c.M F l xs → f l Γ = some Γ' →
    (∀ σ', Rel c.M c.σ0 F H σ' Γ' → (∀ b, own σ' Γ' b → own σ Γ b) → (∀ vs, (∀ i ∈ ts, i ∈ vs) → wipe σ' vs = wipe σ vs) → Q σ' H) → g xs σ H Q
theorem wipe_set {σ : L2.St} {i : Nat} {v : V} : ∀ {vs : List Nat}, i ∈ vs → wipe (σ.set i (some v)) vs = wipe σ vs
  | [], h => by cases h
  | j :: vs, h => by
    unfold wipe
    by_cases z : i ∈ vs
    · rw [wipe_set z]
    · have e : i = j := by
        rcases List.mem_cons.mp h with e | e
        · exact e
        · exact absurd e z
      subst e
      have comm : ∀ {ws : List Nat}, i ∉ ws → wipe (σ.set i (some v)) ws = (wipe σ ws).set i (some v) := by
        intro ws
        induction ws with
        | nil => intro _; rfl
        | cons k ws ih =>
          intro hn
          unfold wipe
          rw [ih (fun q => hn (List.mem_cons_of_mem _ q)), List.set_comm]
          exact fun e => hn (by rw [e]; exact List.mem_cons_self)
      rw [comm z, List.set_set]
def tName (i : Nat) : TgF := fun d Γ => setG Γ i (.dat d)
theorem gs_name {i : Nat} : GSpec c (gName i) [i] (tName i) := by
  intro σ F H Γ v d Γ' Q r hr h k
  obtain ⟨r2, o2⟩ := set_rel (A0 := fun _ => False) (H0 := H) r h (show AVR c.M (fun _ => False) H F H (own σ Γ) v (.dat d) from hr)
  have h2 := h
  unfold tName setG at h2
  split at h2
  · cases h2
    refine k _ r2 (fun b hb => ?_) fun vs hv => wipe_set (hv i (by simp))
    -- nothing new is own
    obtain ⟨j, t, o, h1, h3⟩ := hb
    by_cases z : i = j
    · subst z
      have hi : i < Γ.length := by
        have q := (List.getElem?_eq_some_iff.mp h1).1
        rwa [List.length_set] at q
      rw [List.getElem?_set_self hi] at h1
      cases h1
    · rw [List.getElem?_set_ne z] at h1 h3
      exact ⟨j, t, o, h1, h3⟩
  · cases h2
def tsNil : TgsF := fun l Γ => match l with
  | [] => some Γ
  | _ => none
def tsCons (f : TgF) (g : TgsF) : TgsF := fun l Γ => match l with
  | d :: r => (f d Γ).bind (g r)
  | [] => none
end
theorem gss_nil {c : Cf} : GsSpec c gNil 0 [] tsNil := by
  refine ⟨fun l Γ Γ' h => ?_, fun σ F H Γ xs l Γ' Q r hr h k => ?_⟩
  · unfold tsNil at h
    split at h
    · rfl
    · cases h
  · unfold tsNil at h
    split at h
    · cases h
      exact ⟨reps_nil.mp hr, k σ r (fun b hb => hb) fun vs _ => rfl⟩
    · cases h
theorem gss_cons {c : Cf} {g : TG} {gs : TGs} {n : Nat} {ts us : List Nat} {f : TgF} {fs : TgsF} (h1 : GSpec c g ts f) (h2 : GsSpec c gs n us fs) : GsSpec c (gCons g gs) (n + 1) (ts ++ us) (tsCons f fs) := by
  refine ⟨fun l Γ Γ' h => ?_, fun σ F H Γ xs l Γ' Q r hr h k => ?_⟩
  · unfold tsCons at h
    split at h
    · obtain ⟨Γ1, e1, e2⟩ := Option.bind_eq_some_iff.mp h
      rw [List.length_cons, h2.1 _ _ _ e2]
    · cases h
  · unfold tsCons at h
    split at h
    · rename_i d l'
      obtain ⟨Γ1, e1, e2⟩ := Option.bind_eq_some_iff.mp h
      obtain ⟨v, xr, rfl, r1, r2⟩ := reps_cons.mp hr
      refine ⟨v, xr, rfl, ?_⟩
      refine h1 σ F H Γ v d Γ1 _ r r1 e1 fun σ1 x1 x2 x3 => ?_
      refine h2.2 σ1 F H Γ1 xr l' Γ' Q x1 r2 e2 fun σ2 y1 y2 y3 => k σ2 y1 (fun b hb => x2 b (y2 b hb)) fun vs hv => ?_
      rw [y3 vs (fun i hi => hv i (List.mem_append_right _ hi)), x3 vs (fun i hi => hv i (List.mem_append_left _ hi))]
    · cases h
def tTup (f : TgsF) : TgF := fun d Γ => match d with
  | .tup l => f l Γ
  | .lst l => f l Γ
  | .fz l => f l Γ
  | _ => none
/-- (a, b, ..) = a tuple or a list of that length -/
def gTupA (K : PySem.W.Frag) (n : Nat) (t : TGs) : TG := fun v σ H Q => ∃ a xs, v = .ref a ∧ (SqT K H a xs ∨ SqL K H a xs) ∧ xs.length = n ∧ t xs σ H Q
theorem pg_tupA {X : Cx} {pos : Pos} {es : List Expr} {k : Nat} {t : TGs} {n : Nat} (hc : X.calm = true) (h : PGs X es t)
    (hn : (assignEach es X.env).length = n := by rfl) (hst : (assignEach es X.env).findIdx? (·.1) = none := by rfl) : PG X (.Tuple es k pos) (gTupA X.K n t) := by
  refine ⟨fun pins s σ H v u Q I r hw => ?_⟩
  obtain ⟨a, xs, e1, hq | hq, hl, hw⟩ := hw
  · exact (pg_tup hc h hn hst).run pins s σ H v u Q I r ⟨a, xs, e1, hq, hl, hw⟩
  · exact (pg_unl hc h hn hst).run pins s σ H v u Q I r ⟨a, xs, e1, hq, hl, hw⟩
theorem gs_tup {c : Cf} {K : PySem.W.Frag} {gs : TGs} {n : Nat} {ts : List Nat} {f : TgsF} (hK : c.M.K = K) (h : GsSpec c gs n ts f) : GSpec c (gTupA K n gs) ts (tTup f) := by
  intro σ F H Γ v d Γ' Q r hr e k
  unfold tTup at e
  split at e
  · rename_i l
    obtain ⟨a, xs, rfl, h1, h2⟩ := rep_tup.mp hr
    subst hK
    exact ⟨a, xs, rfl, .inl (Evl.ex_t r.sub (h1.sq h2)), by rw [h2.length]; exact h.1 l Γ Γ' e, h.2 σ F H Γ xs l Γ' Q r h2 e k⟩
  · rename_i l
    obtain ⟨a, xs, rfl, h1, h2⟩ := rep_lst.mp hr
    exact ⟨a, xs, rfl, .inr (SqL.of (r.sub _ _ h1)), by rw [h2.length]; exact h.1 l Γ Γ' e, h.2 σ F H Γ xs l Γ' Q r h2 e k⟩
  · rename_i l
    obtain ⟨a, xs, rfl, h1, h2⟩ := rep_fz.mp hr
    subst hK
    exact ⟨a, xs, rfl, .inr (Evl.ex_l r.sub h1), by rw [h2.length]; exact h.1 l Γ Γ' e, h.2 σ F H Γ xs l Γ' Q r h2 e k⟩
  · cases e
section
variable {X : Cx} {c : Cf} {s : Stmt} {ss : List Stmt} {e : Expr} {pos : Pos}
def asgS (g : TgF) (f : Ev → Rs D) : Ev → Out := fun Γ => (f Γ).out fun d Γ => optS (g d Γ)
/-- target = value, the value data -/
theorem ds_asg {tg : Expr} {t : TG} {ts : List Nat} {g : TgF} {f : Ev → Rs D} (h : DE X c e f) (hg : PG X tg t) (gs : GSpec c t ts g) (hs : swapsWithSole [tg] e pos.line X.env = pure false := by rfl) (hw : swappedStores [tg] e X.env = pure none := by rfl)
    (h1 : (assignEach [tg] X.env).map (·.2) = [assign tg X.env] := by rfl) : DS X c (.Assign [tg] e pos) (asgS g f) :=
  PS.of (ps_asg h hg hs hw h1) fun De σ H ⟨F, Γ, r, q⟩ => ⟨F, Γ, r, (PoS.out (R := vrD c.M) q).imp fun v H' ⟨F', Γ', d, r1, e1, a1, q1⟩ => by
    cases hs : g d Γ' with
    | none => rw [hs] at q1; exact q1.elim
    | some Γ2 =>
      rw [hs] at q1
      exact gs σ F' H' Γ' v d Γ2 _ r1 a1 hs fun σ' x1 x2 x3 => q1 σ' F' H' x1 (e1.own fun b hb => .inl (x2 b hb))⟩
def whileS (t : Ev → Rs Bool) (f : Ev → Out) : Nat → Ev → Out
  | 0, _ => .bad
  | n + 1, Γ => (t Γ).out fun b Γ => if b = true then (match f Γ with
    | .nx Γ => whileS t f n Γ
    | .ct Γ => whileS t f n Γ
    | .bk Γ => .nx Γ
    | o => o) else .nx Γ
theorem ds_while {body : List Stmt} {t : Ev → Rs Bool} {f : Ev → Out} (n : Nat) (hp : PassesOwn (model X.prog X.w) X.A X.env X.xe) (ht : DT X c e t) (hb : DSs X c body f) : DS X c (.While e body [] pos) (whileS t f n) :=
  PS.of (ps_while hp ht hb) fun De σ H ⟨F, Γ, r, q⟩ => by
    refine ⟨fun m σ H => ∃ F Γ, Rel c.M c.σ0 F H σ Γ ∧ PoS c σ F H Γ (whileS t f m Γ) De, ⟨n, F, Γ, r, q⟩, ?_⟩
    rintro m σ H ⟨F, Γ, r, q⟩
    cases m with
    | zero => exact q.elim
    | succ m =>
      refine ⟨F, Γ, r, (PoS.out (R := vrT) (show PoS c σ F H Γ ((t Γ).out _) De from q)).imp fun v H' ⟨F', Γ', a, r1, e1, a1, q1⟩ => ?_⟩
      have a2 : v = a := a1
      subst a2
      cases v with
      | false =>
        rw [if_neg (by decide)] at q1 ⊢
        exact q1 σ F' H' r1 e1
      | true =>
        rw [if_pos rfl] at q1 ⊢
        refine ⟨fun σ H => ∃ F Γ, Rel c.M c.σ0 F H σ Γ ∧ PoS c σ F H Γ (whileS t f m Γ) De, fun σ' H' h => ⟨m, Nat.lt_succ_self _, h⟩, F', Γ', r1, ?_⟩
        cases hf : f Γ' with
        | nx Γ2 => rw [hf] at q1; exact fun σ2 F2 H2 r2 e2 => ⟨F2, Γ2, r2, PoS.shift (e1.trans e2) q1⟩
        | ct Γ2 => rw [hf] at q1; exact fun σ2 F2 H2 r2 e2 => ⟨F2, Γ2, r2, PoS.shift (e1.trans e2) q1⟩
        | bk Γ2 => rw [hf] at q1; exact fun σ2 F2 H2 r2 e2 => q1 σ2 F2 H2 r2 (e1.trans e2)
        | rt av Γ2 => rw [hf] at q1; exact fun σ2 F2 H2 v r2 e2 a => q1 σ2 F2 H2 v r2 (e1.trans e2) (a.shift e1)
        | ex k l Γ2 => rw [hf] at q1; exact fun σ2 F2 H2 C dx r2 e2 m x => q1 σ2 F2 H2 C dx r2 (e1.trans e2) m x
        | bad => rw [hf] at q1; exact q1.elim
/-- J walks these items while the frame F (and what P pins) stands -/
structure Wk (M : Md) (F : Hp) (P : Addr → HO → Prop) (items : List D) (J : It) : Prop where
  ex : ∃ (G : Hp → Prop) (Y : Nat → Hp → V → Hp → Prop), Walk J items.length G Y ∧ (∀ F' H', Ex F F' → Ex F' H' → (∀ p u, P p u → H' p = some u) → G H') ∧
    ∀ i F' H' v H'', i < items.length → Ex F F' → Ex F' H' → Y i H' v H'' → ∃ F'' d, items[i]? = some d ∧ Ext noA F' H' noA F'' H'' ∧ Ex F'' H'' ∧ Rep M F'' d v
def noP : Addr → HO → Prop := fun _ _ => False
def PoI (c : Cf) (σ : L2.St) (F H : Hp) (Γ : Ev) (r : Rs (List D)) (R : It → Hp → Prop) : Prop :=
  match r with
  | .ok items Γ' => ∀ F' H' J, Rel c.M c.σ0 F' H' σ Γ' → Ext (own σ Γ) F H (own σ Γ') F' H' → Wk c.M F' noP items J → R J H'
  | .ex n l Γ' => ∀ F' H' C dx, Rel c.M c.σ0 F' H' σ Γ' → Ext (own σ Γ) F H (own σ Γ') F' H' → c.M.mg n = some (.ref C) → XR c.M F' l dx → c.W (.ref C) dx σ H'
  | .bad => False
def tI (c : Cf) (f : Ev → Rs (List D)) : TI := fun σ H R => ∃ F Γ, Rel c.M c.σ0 F H σ Γ ∧ PoI c σ F H Γ (f Γ) R
abbrev DI (X : Cx) (c : Cf) (tg iter : Expr) (f : Ev → Rs (List D)) : Prop := PI X tg iter (tI c f)
theorem PI.of {tg iter : Expr} {t t' : TI} (h : PI X tg iter t) (i : ∀ σ H R, t' σ H R → t σ H R) : PI X tg iter t' := ⟨fun pins s σ H R I q => h.run pins s σ H R I (i σ H R q)⟩
def forL (g : TgF) (f : Ev → Out) : List D → Ev → Out
  | [], Γ => .nx Γ
  | d :: r, Γ => match g d Γ with
    | none => .bad
    | some Γ => (match f Γ with
      | .nx Γ => forL g f r Γ
      | .ct Γ => forL g f r Γ
      | .bk Γ => .nx Γ
      | o => o)
def forS (g : TgF) (src : Ev → Rs (List D)) (f : Ev → Out) : Ev → Out := fun Γ => (src Γ).out fun items Γ => forL g f items Γ
theorem PoI.bind {σ : L2.St} {F H : Hp} {Γ : Ev} {De : Ends} {r : Rs (List D)} {k : List D → Ev → Out} (h : PoS c σ F H Γ (r.out k) De) :
    PoI c σ F H Γ r fun J H' => ∃ F' Γ' items, Rel c.M c.σ0 F' H' σ Γ' ∧ Ext (own σ Γ) F H (own σ Γ') F' H' ∧ Wk c.M F' noP items J ∧ PoS c σ F H Γ (k items Γ') De := by
  cases r with
  | ok a Γ' => exact fun F' H' J r1 e1 v1 => ⟨F', Γ', a, r1, e1, v1, h⟩
  | ex n l Γ' => exact fun F' H' C dx r1 e1 m x => h σ F' H' C dx r1 e1 m x
  | bad => exact h
theorem PoI.imp {σ : L2.St} {F H : Hp} {Γ : Ev} {r : Rs (List D)} {R R' : It → Hp → Prop} (h : PoI c σ F H Γ r R) (i : ∀ J H', R J H' → R' J H') : PoI c σ F H Γ r R' := by
  cases r with
  | ok a Γ' => exact fun F' H' J r1 e1 v1 => i _ _ (h F' H' J r1 e1 v1)
  | ex n l Γ' => exact h
  | bad => exact h
theorem ds_for {tg iter : Expr} {body : List Stmt} {t : TG} {ts : List Nat} {g : TgF} {src : Ev → Rs (List D)} {f : Ev → Out} (hp : PassesOwn (model X.prog X.w) X.A X.env X.xe) (hc : X.calm = true) (hi : DI X c tg iter src) (hg : PG X tg t) (gs : GSpec c t ts g) (hb : DSs X c body f)
    (hs : ∀ x, foldedSetIterable iter X.env x = pure x := by intro _; rfl) : DS X c (.For tg iter body [] pos) (forS g src f) :=
  PS.of (ps_for hp hc hi hg hb hs) fun De σ H ⟨F, Γ, r, q⟩ => by
    refine ⟨F, Γ, r, (PoI.bind q).imp fun J H1 ⟨F1, Γ1, items, r1, e1, ⟨G, Y, w, hG, hY⟩, q1⟩ => ?_⟩
    refine for_it w (fun i σ' H' => ∃ F' Γ', Rel c.M c.σ0 F' H' σ' Γ' ∧ Ex F1 F' ∧ PoS c σ' F' H' Γ' (forL g f (items.drop i) Γ') De)
      ⟨F1, Γ1, r1, Evl.Ex.refl _, PoS.shift e1 q1⟩ (fun i σ' H' hi ⟨F', Γ', r', x', _⟩ => hG F' H' x' r'.sub fun _ _ z => z.elim) ?_ ?_
    · rintro i v σ' H' H'' hi ⟨F', Γ', r', x', q'⟩ hy
      obtain ⟨F2, d, hd, ee, sub2, rd⟩ := hY i F' H' v H'' hi x' r'.sub hy
      have r2 := r'.op ee sub2
      have e2 : Ext (own σ' Γ') F' H' (own σ' Γ') F2 H'' := ee.sub fun _ z => z.elim
      have hdrop : items.drop i = d :: items.drop (i + 1) := by
        have hl := (List.getElem?_eq_some_iff.mp hd)
        obtain ⟨h1, h2⟩ := hl
        rw [← h2]
        exact List.drop_eq_getElem_cons h1
      rw [hdrop] at q'
      have q3 := PoS.shift e2 q'
      unfold forL at q3
      cases hgd : g d Γ' with
      | none => rw [hgd] at q3; exact q3.elim
      | some Γ3 =>
        rw [hgd] at q3
        refine gs σ' F2 H'' Γ' v d Γ3 _ r2 rd hgd fun σ3 x1 x2 x3 => ?_
        have e3 : Ext (own σ' Γ') F2 H'' (own σ3 Γ3) F2 H'' := Ext.own Ext.refl fun b hb => .inl (x2 b hb)
        have q4 := PoS.shift e3 q3
        dsimp only at q4
        refine ⟨F2, Γ3, x1, ?_⟩
        have xx : Ex F1 F2 := x'.trans ee.ff
        cases hf : f Γ3 with
        | nx Γ4 => rw [hf] at q4; exact fun σ4 F4 H4 r4 e4 => ⟨F4, Γ4, r4, xx.trans e4.ff, PoS.shift e4 q4⟩
        | ct Γ4 => rw [hf] at q4; exact fun σ4 F4 H4 r4 e4 => ⟨F4, Γ4, r4, xx.trans e4.ff, PoS.shift e4 q4⟩
        | bk Γ4 => rw [hf] at q4; exact fun σ4 F4 H4 r4 e4 => q4 σ4 F4 H4 r4 e4
        | rt av Γ4 => rw [hf] at q4; exact q4
        | ex k l Γ4 => rw [hf] at q4; exact q4
        | bad => rw [hf] at q4; exact q4.elim
    · rintro σ' H' ⟨F', Γ', r', x', q'⟩
      rw [List.drop_length] at q'
      exact q' σ' F' H' r' Ext.refl
end
end Nv
-- N9
namespace Nv
open PySem PySem.Spec PyProof.Rows L2
open Evl (Ex)
inductive FR where
  | ok (av : AV) (outs : Ev) | ex (n : Str) (l : List (Str × D)) (outs : Ev) | bad
def tagA : Nat → List AV → Ev
  | _, [] => []
  | k, .dat d :: r => .dat d :: tagA (k + 1) r
  | k, .own o :: r => .own (some k) o :: tagA (k + 1) r
def tag1 (k : Nat) : AV → Slot
  | .dat d => .dat d
  | .own o => .own (some k) o
theorem tagA_cons {k : Nat} {a : AV} {r : List AV} : tagA k (a :: r) = tag1 k a :: tagA (k + 1) r := by cases a <;> rfl
theorem tagA_len : ∀ {k : Nat} {l : List AV}, (tagA k l).length = l.length
  | _, [] => rfl
  | k, a :: r => by rw [tagA_cons, List.length_cons, tagA_len, List.length_cons]
theorem tagA_get : ∀ {k : Nat} {l : List AV} {j : Nat}, (tagA k l)[j]? = (l[j]?).map (tag1 (k + j))
  | _, [], _ => rfl
  | k, a :: r, 0 => by rw [tagA_cons]; rfl
  | k, a :: r, j + 1 => by
    rw [tagA_cons, List.getElem?_cons_succ, List.getElem?_cons_succ, tagA_get, show k + 1 + j = k + (j + 1) by omega]
theorem tag1_own {k : Nat} {a : AV} {t : Option Nat} {o : O} (h : tag1 k a = .own t o) : t = some k ∧ a = .own o := by
  cases a with
  | dat d => cases h
  | own o' => cases h; exact ⟨rfl, rfl⟩
theorem tag1_dat {k : Nat} {a : AV} {d : D} (h : tag1 k a = .dat d) : a = .dat d := by
  cases a with
  | dat d => cases h; rfl
  | own o' => cases h
theorem tagA_own {k : Nat} {l : List AV} {j : Nat} {t : Option Nat} {o : O} (h : (tagA k l)[j]? = some (.own t o)) : t = some (k + j) ∧ l[j]? = some (.own o) := by
  rw [tagA_get] at h
  cases e : l[j]? with
  | none => rw [e] at h; cases h
  | some a =>
    rw [e] at h
    obtain ⟨h1, h2⟩ := tag1_own (Option.some.inj h)
    exact ⟨h1, by rw [h2]⟩
/-- the promise of a def that does as g says -/
def spD (M : Md) (n : Nat) (g : List AV → FR) : Sp := fun vs H Q E => vs.length = n ∧ ∃ (F : Hp) (args : List AV), Rel M (vs.map some) F H (vs.map some) (tagA 0 args) ∧
  (match g args with
  | .ok av outs => ∀ F' H' v, Rel M (vs.map some) F' H' (vs.map some) outs → Ext (own (vs.map some) (tagA 0 args)) F H (own (vs.map some) outs) F' H' →
      AVR M (own (vs.map some) (tagA 0 args)) H F' H' (own (vs.map some) outs) v av → Q v H'
  | .ex n l outs => ∀ F' H' C dx, Rel M (vs.map some) F' H' (vs.map some) outs → Ext (own (vs.map some) (tagA 0 args)) F H (own (vs.map some) outs) F' H' →
      M.mg n = some (.ref C) → XR M F' l dx → E (.ref C) dx H'
  | .bad => False)
def outA : Nat → List AV → Ev → Option Ev
  | _, [], _ => some []
  | _, _ :: _, [] => none
  | k, .dat d :: r, _ :: Γ => (outA (k + 1) r Γ).map (.dat d :: ·)
  | k, .own _ :: r, .own (some j) o :: Γ => if j = k then (outA (k + 1) r Γ).map (.own (some k) o :: ·) else none
  | _, .own _ :: _, _ => none
theorem outA_get : ∀ {k : Nat} {args : List AV} {Γ outs : Ev}, outA k args Γ = some outs → outs.length = args.length ∧ ∀ (j : Nat) (a : AV), args[j]? = some a →
    (∃ d, a = .dat d ∧ outs[j]? = some (.dat d)) ∨ (∃ o o', a = .own o ∧ outs[j]? = some (.own (some (k + j)) o') ∧ Γ[j]? = some (.own (some (k + j)) o'))
  | k, [], Γ, outs, h => by
    unfold outA at h
    cases h
    exact ⟨rfl, fun j a h => by cases h⟩
  | k, _ :: _, [], outs, h => by
    unfold outA at h
    cases h
  | k, .dat d :: r, s :: Γ, outs, h => by
    unfold outA at h
    obtain ⟨o, e1, e2⟩ := Option.map_eq_some_iff.mp h
    obtain ⟨h1, h2⟩ := outA_get e1
    subst e2
    refine ⟨by rw [List.length_cons, h1, List.length_cons], fun j a hj => ?_⟩
    cases j with
    | zero => cases hj; exact .inl ⟨d, rfl, rfl⟩
    | succ j =>
      have q := h2 j a (by simpa using hj)
      rw [show k + 1 + j = k + (j + 1) by omega] at q
      simpa using q
  | k, .own o0 :: r, s :: Γ, outs, h => by
    cases s with
    | un => unfold outA at h; cases h
    | dat d => unfold outA at h; cases h
    | own t o =>
      cases t with
      | none => unfold outA at h; cases h
      | some t =>
        unfold outA at h
        split at h
        · rename_i ht
          subst ht
          obtain ⟨o1, e1, e2⟩ := Option.map_eq_some_iff.mp h
          obtain ⟨h1, h2⟩ := outA_get e1
          subst e2
          refine ⟨by rw [List.length_cons, h1, List.length_cons], fun j a hj => ?_⟩
          cases j with
          | zero => cases hj; exact .inr ⟨o0, o, rfl, rfl, rfl⟩
          | succ j =>
            have q := h2 j a (by simpa using hj)
            rw [show t + 1 + j = t + (j + 1) by omega] at q
            simpa using q
        · cases h
def FR.mk (av : AV) (o : Option Ev) : FR := match o with
  | some o => .ok av o
  | none => .bad
def FR.mkx (n : Str) (l : List (Str × D)) (o : Option Ev) : FR := match o with
  | some o => .ex n l o
  | none => .bad
def runF (m : Nat) (body : Ev → Out) (args : List AV) : FR :=
  match body (tagA 0 args ++ List.replicate (m - args.length) .un) with
  | .nx Γ => FR.mk (.dat .non) (outA 0 args Γ)
  | .rt av Γ => FR.mk av (outA 0 args Γ)
  | .ex n l Γ => FR.mkx n l (outA 0 args Γ)
  | _ => .bad
theorem get_pad {α : Type} {l : List α} {k j : Nat} {a x : α} (h : (l ++ List.replicate k a)[j]? = some x) : l[j]? = some x ∨ x = a := by
  by_cases q : j < l.length
  · rw [List.getElem?_append_left q] at h; exact .inl h
  · rw [List.getElem?_append_right (by omega), List.getElem?_replicate] at h
    split at h
    · cases h; exact .inr rfl
    · cases h
theorem get_padL {α : Type} {l : List α} {k j : Nat} {a x : α} (h : l[j]? = some x) : (l ++ List.replicate k a)[j]? = some x := by
  rw [List.getElem?_append_left (List.getElem?_eq_some_iff.mp h).1]; exact h
theorem own_pad {σ : L2.St} {Γ : Ev} {k : Nat} (hl : σ.length = Γ.length) {b : Addr} : own (σ ++ List.replicate k none) (Γ ++ List.replicate k .un) b ↔ own σ Γ b := by
  constructor
  · rintro ⟨i, t, o, h1, h2⟩
    rcases get_pad h1 with h1 | h1
    · rw [List.getElem?_append_left (by rw [hl]; exact (List.getElem?_eq_some_iff.mp h1).1)] at h2
      exact ⟨i, t, o, h1, h2⟩
    · cases h1
  · rintro ⟨i, t, o, h1, h2⟩
    exact ⟨i, t, o, get_padL h1, get_padL h2⟩
theorem Rel.pad {M : Md} {σ : L2.St} {F H : Hp} {Γ : Ev} (k : Nat) (r : Rel M σ F H σ Γ) : Rel M (σ ++ List.replicate k none) F H (σ ++ List.replicate k none) (Γ ++ List.replicate k .un) := by
  refine ⟨r.sub, by rw [List.length_append, List.length_append, r.len, List.length_replicate, List.length_replicate], fun i s g h1 h2 => ?_, fun i j t o t' o' a h1 h2 h3 h4 => ?_, r.tab⟩
  · rcases get_pad h2 with h2 | h2
    · rw [List.getElem?_append_left (by rw [r.len]; exact (List.getElem?_eq_some_iff.mp h2).1)] at h1
      have q := r.slot i s g h1 h2
      cases g with
      | un => trivial
      | dat d => exact q
      | own t o =>
        obtain ⟨a, x1, x2, x3, x4⟩ := q
        exact ⟨a, x1, x2, x3, fun k hk => get_padL (x4 k hk)⟩
    · subst h2; trivial
  · rcases get_pad h1 with h1 | h1
    · rcases get_pad h2 with h2 | h2
      · rw [List.getElem?_append_left (by rw [r.len]; exact (List.getElem?_eq_some_iff.mp h1).1)] at h3
        rw [List.getElem?_append_left (by rw [r.len]; exact (List.getElem?_eq_some_iff.mp h2).1)] at h4
        exact r.sep i j t o t' o' a h1 h2 h3 h4
      · cases h2
    · cases h1
theorem Ext.subA {A A' A'' : Addr → Prop} {F H F' H' : Hp} (e : Ext A F H A' F' H') (h : ∀ b, A'' b → A' b) : Ext A F H A'' F' H' := ⟨e.ff, e.hh, e.fn, fun b z => e.aa b (h b z), e.k⟩
theorem Ext.congA {A B A' : Addr → Prop} {F H F' H' : Hp} (e : Ext A F H A' F' H') (h : ∀ b, A b ↔ B b) : Ext B F H A' F' H' := ⟨e.ff, fun b o n => e.hh b o fun z => n ((h b).mp z), fun b o n => e.fn b o fun z => n ((h b).mp z), fun b z => by
  rcases e.aa b z with q | q
  · exact .inl ((h b).mp q)
  · exact .inr q, e.k⟩
/-- at the end of a def -/
theorem rel_out {M : Md} {N : List Str} {vs : List V} {F H F' H' : Hp} {σ' : L2.St} {Γ' outs : Ev} {args : List AV} (r0 : Rel M (vs.map some) F H (vs.map some) (tagA 0 args)) (ho : outA 0 args Γ' = some outs)
    (r : Rel M (L2.start N vs) F' H' σ' Γ') (e : Ex F F') : Rel M (vs.map some) F' H' (vs.map some) outs ∧ ∀ b, own (vs.map some) outs b → own σ' Γ' b := by
  obtain ⟨hl, hg⟩ := outA_get ho
  have l0 := r0.len
  rw [tagA_len] at l0
  have arg_of : ∀ {j : Nat} {g : Slot}, outs[j]? = some g → ∃ a, args[j]? = some a := fun {j g} h => by
    have q := (List.getElem?_eq_some_iff.mp h).1
    rw [hl] at q
    exact ⟨_, List.getElem?_eq_getElem q⟩
  -- an own one of the outs is the slot's of old
  have key : ∀ {j : Nat} {t : Option Nat} {o : O}, outs[j]? = some (.own t o) → t = some j ∧ Γ'[j]? = some (.own t o) ∧ ∀ s, (vs.map some)[j]? = some s → ∃ a, s = some (V.ref a) ∧ σ'[j]? = some (some (.ref a)) ∧ F' a = none ∧ ORep M F' H' a o := fun {j t o} h => by
    obtain ⟨a, ha⟩ := arg_of h
    rcases hg j a ha with ⟨d, rfl, h2⟩ | ⟨o1, o', rfl, h2, h3⟩
    · rw [h] at h2; cases h2
    · rw [h] at h2
      cases h2
      rw [Nat.zero_add] at h3 ⊢
      obtain ⟨p, x1, x2, x3, x4, x5⟩ := r.own h3
      refine ⟨rfl, h3, fun s hs => ⟨p, ?_, x1, x2, x3⟩⟩
      have q := x4 j rfl
      unfold L2.start at q
      rw [List.getElem?_append_left (List.getElem?_eq_some_iff.mp hs).1, hs] at q
      exact Option.some.inj q
  refine ⟨⟨r.sub, by rw [hl, l0], fun j s g h1 h2 => ?_, fun i j t o t' o' a h1 h2 h3 h4 => ?_, r.tab⟩, fun b ⟨j, t, o, h1, h2⟩ => ?_⟩
  · cases g with
    | un => trivial
    | dat d =>
      obtain ⟨a, ha⟩ := arg_of h2
      rcases hg j a ha with ⟨d', rfl, h3⟩ | ⟨o1, o', rfl, h3, _⟩
      · rw [h2] at h3; cases h3
        have q := r0.slot j s (.dat d) h1 (by rw [tagA_get, ha]; rfl)
        obtain ⟨v, q1, q2⟩ := q
        exact ⟨v, q1, q2.mono e⟩
      · rw [h2] at h3; cases h3
    | own t o =>
      obtain ⟨k1, k2, k3⟩ := key h2
      obtain ⟨a, x1, x2, x3, x4⟩ := k3 s h1
      subst x1
      refine ⟨a, rfl, x3, x4, fun k hk => ?_⟩
      rw [k1] at hk
      cases hk
      exact h1
  · obtain ⟨_, k2, k3⟩ := key h1
    obtain ⟨_, m2, m3⟩ := key h2
    obtain ⟨b, x1, x2, _⟩ := k3 _ h3
    obtain ⟨c, y1, y2, _⟩ := m3 _ h4
    cases x1
    cases y1
    exact r.sep i j t o t' o' a k2 m2 x2 y2
  · obtain ⟨_, k2, k3⟩ := key h1
    obtain ⟨c, x1, x2, _⟩ := k3 _ h2
    cases x1
    exact ⟨j, t, o, k2, x2⟩
/-- a def by its body -/
theorem fn_def {P : Program} {w : World} {K : PySem.W.Frag} {mg : Str → Option Value} {base : Heap} {x qual : Str} {st : Stmt} {f : Addr} {fd : FuncData} {N ps : List Str} {k : Nat} {g : Ev → Out} (F : Fun K x qual st f fd) (S : FnScope N ps (defScope st))
    (hbody : ∀ (cdv : Value) (A : Around) (outer : List Env) (s : Shared) (H : Hp) (vs : List V) (E : XK), Room k (A.deeper (envOfC qual (defScope st) s.heap.objs.size f cdv)) →
      DSs (cxOf (L2.CX P w) P w K mg base N qual (defScope st) f cdv A outer s H E) ⟨⟨K, mg⟩, L2.start N vs, fun cls d _ H => E cls d H⟩ (defBody st) g) : FnOk P w K mg base (L2.CX P w) (k + 1) f fd ps (spD ⟨K, mg⟩ ps.length (runF N.length g)) := by
  refine F.okX S (fun vs H Q E h => h.1) fun cdv A outer s H vs Q E hr ⟨hlen, F, args, r0, q⟩ => ⟨_, hbody cdv A outer s H vs E hr, ?_⟩
  have l0 := r0.len
  rw [tagA_len, List.length_map] at l0
  have hs : L2.start N vs = vs.map some ++ List.replicate (N.length - args.length) none := by unfold L2.start; rw [l0]
  have r1 : Rel (⟨K, mg⟩ : Md) (L2.start N vs) F H (L2.start N vs) (tagA 0 args ++ List.replicate (N.length - args.length) .un) := by rw [hs]; exact r0.pad _
  have ho : ∀ b, own (L2.start N vs) (tagA 0 args ++ List.replicate (N.length - args.length) .un) b ↔ own (vs.map some) (tagA 0 args) b := fun b => by
    rw [hs]; exact own_pad (by rw [List.length_map, tagA_len, l0])
  refine ⟨F, _, r1, ?_⟩
  unfold runF at q
  have fin : ∀ {outs : Ev} {av : AV} {Γ' : Ev} {F' H' : Hp} {σ' : L2.St} {v : V}, outA 0 args Γ' = some outs → Rel (⟨K, mg⟩ : Md) (L2.start N vs) F' H' σ' Γ' → Ext (own (L2.start N vs) (tagA 0 args ++ List.replicate (N.length - args.length) .un)) F H (own σ' Γ') F' H' →
      AVR ⟨K, mg⟩ (own (L2.start N vs) (tagA 0 args ++ List.replicate (N.length - args.length) .un)) H F' H' (own σ' Γ') v av →
      Rel (⟨K, mg⟩ : Md) (vs.map some) F' H' (vs.map some) outs ∧ Ext (own (vs.map some) (tagA 0 args)) F H (own (vs.map some) outs) F' H' ∧ AVR ⟨K, mg⟩ (own (vs.map some) (tagA 0 args)) H F' H' (own (vs.map some) outs) v av := fun {outs av Γ' F' H' σ' v} h1 r e a => by
    obtain ⟨x1, x2⟩ := rel_out r0 h1 r e.ff
    refine ⟨x1, (e.congA ho).subA x2, ?_⟩
    cases av with
    | dat d => exact a
    | own o =>
      obtain ⟨p, y1, y2, y3, y4, y5⟩ := a
      exact ⟨p, y1, y2, fun z => y3 (x2 p z), y4, y5.imp (ho p).mp id⟩
  cases hb : g (tagA 0 args ++ List.replicate (N.length - args.length) .un) with
  | nx Γ =>
    rw [hb] at q
    dsimp only at q
    cases hO : outA 0 args Γ with
    | none => rw [hO] at q; exact q.elim
    | some outs =>
      rw [hO] at q
      intro σ' F' H' r e
      obtain ⟨z1, z2, z3⟩ := fin (av := .dat .non) (v := .non) hO r e (show Rep _ _ _ _ from rep_non.mpr rfl)
      exact q F' H' .non z1 z2 z3
  | rt av Γ =>
    rw [hb] at q
    dsimp only at q
    cases hO : outA 0 args Γ with
    | none => rw [hO] at q; exact q.elim
    | some outs =>
      rw [hO] at q
      intro σ' F' H' v r e a
      obtain ⟨z1, z2, z3⟩ := fin hO r e a
      exact q F' H' v z1 z2 z3
  | ex n l Γ =>
    rw [hb] at q
    dsimp only at q
    cases hO : outA 0 args Γ with
    | none => rw [hO] at q; exact q.elim
    | some outs =>
      rw [hO] at q
      intro σ' F' H' C dx r e m x
      obtain ⟨z1, z2, z3⟩ := fin (av := .dat .non) (v := .non) hO r e (show Rep _ _ _ _ from rep_non.mpr rfl)
      exact q F' H' C dx z1 z2 m x
  | bk Γ => rw [hb] at q; exact q.elim
  | ct Γ => rw [hb] at q; exact q.elim
  | bad => rw [hb] at q; exact q.elim
def argOf (Γ : Ev) : OV → Option AV
  | .dat d => some (.dat d)
  | .slot i => match Γ[i]? with
    | some (.dat d) => some (.dat d)
    | some (.own _ o) => some (.own o)
    | _ => none
def argsOf (Γ : Ev) : List OV → Option (List AV)
  | [] => some []
  | o :: r => match argOf Γ o, argsOf Γ r with
    | some a, some as => some (a :: as)
    | _, _ => none
def hasO (i : Nat) : List OV → List AV → Bool
  | .slot j :: os, .own _ :: as => j == i || hasO i os as
  | _ :: os, _ :: as => hasO i os as
  | _, _ => false
def apartO : List OV → List AV → Bool
  | .slot i :: os, .own _ :: as => !hasO i os as && apartO os as
  | _ :: os, _ :: as => apartO os as
  | _, _ => true
theorem hasO_of : ∀ {i : Nat} {os : List OV} {as : List AV} {j : Nat} {o : O}, os[j]? = some (.slot i) → as[j]? = some (.own o) → hasO i os as = true
  | _, [], _, _, _, h, _ => by cases h
  | _, _ :: _, [], _, _, _, h => by cases h
  | i, a :: os, b :: as, 0, o, h1, h2 => by
    cases h1
    cases h2
    unfold hasO
    simp
  | i, a :: os, b :: as, j + 1, o, h1, h2 => by
    have q := hasO_of (i := i) (os := os) (as := as) (j := j) (o := o) (by simpa using h1) (by simpa using h2)
    unfold hasO
    split
    · rename_i e1 e2
      cases e1
      cases e2
      rw [q, Bool.or_true]
    · rename_i e1 e2
      cases e1
      cases e2
      exact q
    · rename_i n1 n2
      exact absurd rfl (n2 a os b as rfl)
theorem apartO_of : ∀ {os : List OV} {as : List AV}, apartO os as = true → ∀ {j k i : Nat} {o o' : O}, os[j]? = some (.slot i) → os[k]? = some (.slot i) → as[j]? = some (.own o) → as[k]? = some (.own o') → j = k
  | [], _, _, _, _, _, _, _, h, _, _, _ => by cases h
  | _ :: _, [], _, _, _, _, _, _, _, _, h, _ => by cases h
  | a :: os, b :: as, ha, j, k, i, o, o', h1, h2, h3, h4 => by
    have tail : apartO os as = true := by
      unfold apartO at ha
      split at ha
      · rename_i e1 e2
        cases e1; cases e2
        exact (Bool.and_eq_true _ _ ▸ ha).2
      · rename_i e1 e2
        cases e1; cases e2
        exact ha
      · rename_i n1 n2
        exact absurd rfl (n2 a os b as rfl)
    have head : ∀ {i : Nat} {o : O}, a = .slot i → b = .own o → hasO i os as = false := fun {i o} e1 e2 => by
      subst e1; subst e2
      unfold apartO at ha
      have q := (Bool.and_eq_true _ _ ▸ ha).1
      simpa using q
    cases j with
    | zero =>
      cases k with
      | zero => rfl
      | succ k =>
        have q1 := head (Option.some.inj h1) (Option.some.inj h3)
        rw [hasO_of (by simpa using h2) (by simpa using h4)] at q1
        cases q1
    | succ j =>
      cases k with
      | zero =>
        have q1 := head (Option.some.inj h2) (Option.some.inj h4)
        rw [hasO_of (by simpa using h1) (by simpa using h3)] at q1
        cases q1
      | succ k => 
        have z : j = k := apartO_of tail (i := i) (o := o) (o' := o') (by simpa using h1) (by simpa using h2) (by simpa using h3) (by simpa using h4)
        rw [z]
theorem argsOf_get {Γ : Ev} : ∀ {os : List OV} {as : List AV}, argsOf Γ os = some as → as.length = os.length ∧ ∀ {j : Nat} {a : AV}, as[j]? = some a → ∃ o, os[j]? = some o ∧ argOf Γ o = some a
  | [], as, h => by
    cases h
    exact ⟨rfl, fun h => by cases h⟩
  | o :: os, as, h => by
    unfold argsOf at h
    split at h
    · rename_i a as' e1 e2
      cases h
      obtain ⟨h1, h2⟩ := argsOf_get e2
      refine ⟨by rw [List.length_cons, List.length_cons, h1], fun {j a'} hj => ?_⟩
      cases j with
      | zero => cases hj; exact ⟨o, rfl, e1⟩
      | succ j => simpa using h2 (by simpa using hj)
    · cases h
theorem ovsR_get {M : Md} {σ : L2.St} {F : Hp} : ∀ {vs : List V} {os : List OV}, ovsR M σ F vs os → vs.length = os.length ∧ ∀ {j : Nat} {v : V} {o : OV}, vs[j]? = some v → os[j]? = some o → ovR M σ F v o
  | [], [], _ => ⟨rfl, fun h => by cases h⟩
  | [], _ :: _, h => h.elim
  | _ :: _, [], h => h.elim
  | v :: vs, o :: os, h => by
    obtain ⟨h1, h2⟩ := ovsR_get h.2
    refine ⟨by rw [List.length_cons, List.length_cons, h1], fun {j v' o'} e1 e2 => ?_⟩
    cases j with
    | zero => cases e1; cases e2; exact h.1
    | succ j => exact h2 (by simpa using e1) (by simpa using e2)
/-- what is handed on, told of the arguments alone -/
theorem rel_args {M : Md} {σ0 σ : L2.St} {F H : Hp} {Γ : Ev} {vs : List V} {os : List OV} {as : List AV} (r : Rel M σ0 F H σ Γ) (hv : ovsR M σ F vs os) (ha : argsOf Γ os = some as) (hp : apartO os as = true) :
    Rel M (vs.map some) F H (vs.map some) (tagA 0 as) ∧ (∀ {j : Nat} {o : O}, as[j]? = some (.own o) → ∃ i t a, os[j]? = some (.slot i) ∧ Γ[i]? = some (.own t o) ∧ σ[i]? = some (some (.ref a)) ∧ (vs.map some)[j]? = some (some (.ref a))) := by
  obtain ⟨l1, g1⟩ := argsOf_get ha
  obtain ⟨l2, g2⟩ := ovsR_get hv
  have key : ∀ {j : Nat} {o : O}, as[j]? = some (.own o) → ∃ i t a, os[j]? = some (.slot i) ∧ Γ[i]? = some (.own t o) ∧ σ[i]? = some (some (.ref a)) ∧ (vs.map some)[j]? = some (some (.ref a)) := fun {j o} h => by
    obtain ⟨ov, h1, h2⟩ := g1 h
    cases ov with
    | dat d => cases h2
    | slot i =>
      unfold argOf at h2
      dsimp only at h2
      split at h2
      · cases h2
      · rename_i t o' hg
        cases h2
        obtain ⟨a, x1, _⟩ := r.own hg
        have hj : j < vs.length := by rw [l2]; exact (List.getElem?_eq_some_iff.mp h1).1
        have q := g2 (List.getElem?_eq_getElem hj) h1
        have q' : σ[i]? = some (some vs[j]) := q
        rw [x1] at q'
        have q2 := Option.some.inj (Option.some.inj q')
        exact ⟨i, t, a, h1, hg, x1, by rw [List.getElem?_map, List.getElem?_eq_getElem hj, ← q2]; rfl⟩
      · cases h2
  refine ⟨⟨r.sub, by rw [List.length_map, tagA_len, l1, l2], fun j s g h1 h2 => ?_, fun i j t o t' o' a h1 h2 h3 h4 => ?_, r.tab⟩, key⟩
  · cases g with
    | un => trivial
    | dat d =>
      rw [tagA_get] at h2
      cases e : as[j]? with
      | none => rw [e] at h2; cases h2
      | some a =>
        rw [e] at h2
        have q := tag1_dat (Option.some.inj h2)
        subst q
        obtain ⟨ov, e1, e2⟩ := g1 e
        rw [List.getElem?_map] at h1
        cases ev : vs[j]? with
        | none => rw [ev] at h1; cases h1
        | some v =>
          rw [ev] at h1
          cases h1
          have q := g2 ev e1
          refine ⟨v, rfl, ?_⟩
          cases ov with
          | dat d' => cases e2; exact q
          | slot i =>
            unfold argOf at e2
            dsimp only at e2
            split at e2
            · rename_i d' hg
              cases e2
              obtain ⟨w, x1, x2⟩ := r.dat hg
              have q' : σ[i]? = some (some v) := q
              rw [x1] at q'
              cases q'
              exact x2
            · cases e2
            · cases e2
    | own t o =>
      obtain ⟨ht, e⟩ := tagA_own h2
      obtain ⟨i, t', a, k1, k2, k3, k4⟩ := key e
      rw [h1] at k4
      cases k4
      obtain ⟨b, x1, x2, x3, x4, x5⟩ := r.own k2
      rw [k3] at x1
      cases x1
      refine ⟨a, rfl, x2, x3, fun k hk => ?_⟩
      rw [ht, Nat.zero_add] at hk
      cases hk
      exact h1
  · obtain ⟨_, e1⟩ := tagA_own h1
    obtain ⟨_, e2⟩ := tagA_own h2
    obtain ⟨i1, t1, a1, k1, k2, k3, k4⟩ := key e1
    obtain ⟨i2, t2, a2, m1, m2, m3, m4⟩ := key e2
    rw [h3] at k4
    cases k4
    rw [h4] at m4
    cases m4
    have z := r.sep i1 i2 _ _ _ _ a k2 m2 k3 m3
    subst z
    exact apartO_of hp k1 m1 e1 e2
def backG : Ev → List OV → List AV → Ev → Option Ev
  | Γ, [], [], [] => some Γ
  | Γ, .slot i :: os, .own _ :: as, .own _ o' :: gs => match Γ[i]? with
    | some (.own t _) => backG (Γ.set i (.own t o')) os as gs
    | _ => none
  | Γ, _ :: os, .dat _ :: as, .dat _ :: gs => backG Γ os as gs
  | _, _, _, _ => none
theorem backG_spec : ∀ {os : List OV} {as : List AV} {gs Γ Γ2 : Ev}, backG Γ os as gs = some Γ2 → apartO os as = true → Γ2.length = Γ.length ∧ as.length = os.length ∧ gs.length = os.length ∧
    (∀ i : Nat, (∀ (j : Nat) (o : O), os[j]? = some (.slot i) → as[j]? ≠ some (.own o)) → Γ2[i]? = Γ[i]?) ∧
    (∀ (j i : Nat) (o : O), os[j]? = some (.slot i) → as[j]? = some (.own o) → ∃ t o0 t' o', gs[j]? = some (.own t' o') ∧ Γ[i]? = some (.own t o0) ∧ Γ2[i]? = some (.own t o')) ∧
    (∀ (j : Nat) (t' : Option Nat) (o' : O), gs[j]? = some (.own t' o') → ∃ o, as[j]? = some (.own o))
  | [], [], [], Γ, Γ2, h, hp => by
    unfold backG at h
    cases h
    refine ⟨rfl, rfl, rfl, fun _ _ => rfl, fun j i o h _ => ?_, fun j t o h => ?_⟩ <;> cases h
  | [], [], _ :: _, Γ, Γ2, h, hp => by
    unfold backG at h
    exact nomatch h
  | [], a :: _, gs, Γ, Γ2, h, hp => by
    cases a <;> cases gs <;> exact nomatch h
  | o :: _, [], gs, Γ, Γ2, h, hp => by
    cases o <;> cases gs <;> exact nomatch h
  | o :: os, a :: as, [], Γ, Γ2, h, hp => by
    cases o <;> cases a <;> exact nomatch h
  | .slot i :: os, .own o1 :: as', .own t1 o' :: gs', Γ, Γ2, h, hp => by
    unfold backG at h
    split at h
    · rename_i t o0 hg
      have hp2 : apartO os as' = true := by
        unfold apartO at hp
        exact (Bool.and_eq_true _ _ ▸ hp).2
      obtain ⟨a1, a2, a3, a4, a5, a6⟩ := backG_spec h hp2
      have hi : i < Γ.length := (List.getElem?_eq_some_iff.mp hg).1
      refine ⟨by rw [a1, List.length_set], by rw [List.length_cons, List.length_cons, a2], by rw [List.length_cons, List.length_cons, a3], fun k hk => ?_, fun j k o2 h1 h2 => ?_, fun j t' o' h1 => ?_⟩
      · have nk : i ≠ k := fun z => hk 0 o1 (by rw [z]; rfl) rfl
        rw [a4 k fun j o2 q1 q2 => hk (j + 1) o2 (by simpa using q1) (by simpa using q2), List.getElem?_set_ne nk]
      · cases j with
        | zero =>
          cases h1
          refine ⟨t, o0, t1, o', rfl, hg, ?_⟩
          rw [a4 i fun j o2 q1 q2 => ?_, List.getElem?_set_self hi]
          have z : (0 : Nat) = j + 1 := apartO_of hp (i := i) (o := o1) (o' := o2) rfl (by simpa using q1) rfl (by simpa using q2)
          omega
        | succ j =>
          have q1 : os[j]? = some (.slot k) := by simpa using h1
          have q2 : as'[j]? = some (.own o2) := by simpa using h2
          obtain ⟨t2, o3, t3, o4, b1, b2, b3⟩ := a5 j k o2 q1 q2
          have nk : i ≠ k := fun z => by
            have z2 : (0 : Nat) = j + 1 := apartO_of hp (i := i) (o := o1) (o' := o2) rfl (by rw [z]; simpa using q1) rfl (by simpa using q2)
            omega
          rw [List.getElem?_set_ne nk] at b2
          exact ⟨t2, o3, t3, o4, by simpa using b1, b2, b3⟩
      · cases j with
        | zero => exact ⟨o1, rfl⟩
        | succ j => simpa using a6 j t' o' (by simpa using h1)
    · cases h
  | .slot i :: os, .own o1 :: as', .dat _ :: gs', Γ, Γ2, h, hp => by
    unfold backG at h
    exact nomatch h
  | .slot i :: os, .own o1 :: as', .un :: gs', Γ, Γ2, h, hp => by
    unfold backG at h
    exact nomatch h
  | .dat i :: os, .own o1 :: as', g :: gs', Γ, Γ2, h, hp => by
    cases g <;> exact nomatch h
  | o :: os, .dat d :: as', .own _ _ :: gs', Γ, Γ2, h, hp => by
    cases o <;> exact nomatch h
  | o :: os, .dat d :: as', .un :: gs', Γ, Γ2, h, hp => by
    cases o <;> exact nomatch h
  | o :: os, .dat d :: as', .dat d2 :: gs', Γ, Γ2, h, hp => by
    have h' : backG Γ os as' gs' = some Γ2 := by
      cases o <;> exact h
    have hp2 : apartO os as' = true := by
      cases o <;> exact hp
    obtain ⟨a1, a2, a3, a4, a5, a6⟩ := backG_spec h' hp2
    refine ⟨a1, by rw [List.length_cons, List.length_cons, a2], by rw [List.length_cons, List.length_cons, a3], fun k hk => ?_, fun j k o2 h1 h2 => ?_, fun j t' o' h1 => ?_⟩
    · exact a4 k fun j o2 q1 q2 => hk (j + 1) o2 (by simpa using q1) (by simpa using q2)
    · cases j with
      | zero => cases h2
      | succ j => simpa using a5 j k o2 (by simpa using h1) (by simpa using h2)
    · cases j with
      | zero => cases h1
      | succ j => simpa using a6 j t' o' (by simpa using h1)
theorem rel_back {M : Md} {σ0 σ : L2.St} {F H F2 H2 : Hp} {Γ Γ2 outs : Ev} {vs : List V} {os : List OV} {as : List AV} (r : Rel M σ0 F H σ Γ) (hv : ovsR M σ F vs os) (ha : argsOf Γ os = some as) (hp : apartO os as = true)
    (hb : backG Γ os as outs = some Γ2) (r2 : Rel M (vs.map some) F2 H2 (vs.map some) outs) (e : Ext (own (vs.map some) (tagA 0 as)) F H (own (vs.map some) outs) F2 H2) :
    Rel M σ0 F2 H2 σ Γ2 ∧ Ext (own σ Γ) F H (own σ Γ2) F2 H2 ∧ ∀ b, own σ Γ2 b → own (vs.map some) outs b ∨ (own σ Γ b ∧ ¬ own (vs.map some) (tagA 0 as) b) := by
  obtain ⟨ra, key⟩ := rel_args r hv ha hp
  obtain ⟨b1, b2, b3, b4, b5, b6⟩ := backG_spec hb hp
  have sub : ∀ b, own (vs.map some) (tagA 0 as) b → own σ Γ b := fun b ⟨j, t, o, h1, h2⟩ => by
    obtain ⟨_, e1⟩ := tagA_own h1
    obtain ⟨i, t', a, k1, k2, k3, k4⟩ := key e1
    rw [h2] at k4
    cases k4
    exact ⟨i, t', o, k2, k3⟩
  -- a slot behind the call: one that was handed on, or one that stands
  have cls : ∀ {i : Nat} {g : Slot}, Γ2[i]? = some g → (∃ (j : Nat) (t : Option Nat) (o' : O) (t' : Option Nat), g = .own t o' ∧ outs[j]? = some (.own t' o') ∧ (∃ o0, Γ[i]? = some (.own t o0)) ∧ ∃ a : Addr, σ[i]? = some (some (.ref a)) ∧ (vs.map some)[j]? = some (some (.ref a))) ∨
      (Γ[i]? = some g ∧ ∀ t o a, g = .own t o → σ[i]? = some (some (.ref a)) → ¬ own (vs.map some) (tagA 0 as) a) := fun {i g} h => by
    by_cases c : ∃ (j : Nat) (o : O), os[j]? = some (.slot i) ∧ as[j]? = some (.own o)
    · obtain ⟨j, o, c1, c2⟩ := c
      obtain ⟨t, o0, t', o', x1, x2, x3⟩ := b5 j i o c1 c2
      rw [h] at x3
      cases x3
      obtain ⟨i', t2, a, k1, k2, k3, k4⟩ := key c2
      rw [c1] at k1
      cases k1
      exact .inl ⟨j, t, o', t', rfl, x1, ⟨o0, x2⟩, a, k3, k4⟩
    · have q := b4 i fun j o q1 q2 => c ⟨j, o, q1, q2⟩
      rw [h] at q
      refine .inr ⟨q.symm, fun t o a eg hs ⟨j, t2, o2, h1, h2⟩ => ?_⟩
      subst eg
      obtain ⟨_, e1⟩ := tagA_own h1
      obtain ⟨i', t', a', k1, k2, k3, k4⟩ := key e1
      rw [h2] at k4
      cases k4
      have z := r.sep i i' _ _ _ _ a q.symm k2 hs k3
      subst z
      exact c ⟨j, o2, k1, e1⟩
  have ownsub : ∀ b, own σ Γ2 b → own (vs.map some) outs b ∨ (own σ Γ b ∧ ¬ own (vs.map some) (tagA 0 as) b) := fun b ⟨i, t, o, h1, h2⟩ => by
    rcases cls h1 with ⟨j, t2, o', t', e1, e2, e3, a, e4, e5⟩ | ⟨e1, e2⟩
    · rw [h2] at e4
      cases e4
      exact .inl ⟨j, t', o', e2, e5⟩
    · exact .inr ⟨⟨i, t, o, e1, h2⟩, e2 t o b rfl h2⟩
  refine ⟨⟨r2.sub, by rw [b1, r.len], fun i s g h1 h2 => ?_, fun i j t o t' o' a h1 h2 h3 h4 => ?_, r2.tab⟩, ⟨e.ff, fun b o n => e.hh b o fun z => n (sub b z), fun b o n => e.fn b o fun z => n (sub b z), fun b z => ?_, e.k⟩, ownsub⟩
  · rcases cls h2 with ⟨j, t2, o', t', e1, e2, ⟨o0, e3⟩, a, e4, e5⟩ | ⟨e1, e2⟩
    · subst e1
      rw [h1] at e4
      cases e4
      obtain ⟨a', x1, x2, x3, x4, x5⟩ := r2.own e2
      rw [e5] at x1
      cases x1
      obtain ⟨a2, y1, y2, y3, y4, y5⟩ := r.own e3
      rw [h1] at y1
      cases y1
      exact ⟨a, rfl, x2, x3, y4⟩
    · have q := r.slot i s g h1 e1
      cases g with
      | un => trivial
      | dat d => obtain ⟨v, q1, q2⟩ := q; exact ⟨v, q1, q2.mono e.ff⟩
      | own t o =>
        obtain ⟨a, q1, q2, q3, q4⟩ := q
        subst q1
        have na := e2 t o a rfl h1
        obtain ⟨u, hu⟩ := q3.some
        exact ⟨a, rfl, e.fn a u na hu q2 (q3.nt hu), q3.mono e.ff (by rw [e.hh a u na hu (q3.ntb hu), hu]), q4⟩
  · have f : ∀ {i : Nat} {t : Option Nat} {o : O}, Γ2[i]? = some (.own t o) → ∃ o0, Γ[i]? = some (.own t o0) := fun {i t o} h => by
      rcases cls h with ⟨j, t2, o', t', e1, e2, ⟨o0, e3⟩, _⟩ | ⟨e1, e2⟩
      · cases e1; exact ⟨o0, e3⟩
      · exact ⟨o, e1⟩
    obtain ⟨_, f1⟩ := f h1
    obtain ⟨_, f2⟩ := f h2
    exact r.sep i j _ _ _ _ a f1 f2 h3 h4
  · rcases ownsub b z with q | q
    · rcases e.aa b q with q | q
      · exact .inl (sub b q)
      · exact .inr q
    · exact .inl q.1
def FR.back (Γ : Ev) (os : List OV) (as : List AV) : FR → Rs AV
  | .ok av outs => match backG Γ os as outs with
    | some Γ2 => .ok av Γ2
    | none => .bad
  | .ex n l outs => match backG Γ os as outs with
    | some Γ2 => .ex n l Γ2
    | none => .bad
  | .bad => .bad
def callR (g : List AV → FR) (os : List OV) (Γ : Ev) : Rs AV :=
  match argsOf Γ os with
  | some as => if apartO os as = true then FR.back Γ os as (g as) else .bad
  | none => .bad
theorem po_call {c : Cf} {g : List AV → FR} {σ : L2.St} {F H F1 H1 : Hp} {Γ Γ1 : Ev} {os : List OV} {vs : List V} {Q : VK} {n : Nat} (rel : Rel c.M c.σ0 F1 H1 σ Γ1) (e : Ext (own σ Γ) F H (own σ Γ1) F1 H1)
    (hv : ovsR c.M σ F1 vs os) (hn : vs.length = n) (q : Po c (vrO c.M) σ F H Γ (callR g os Γ1) Q) : spD c.M n g vs H1 Q (WE c.W σ) := by
  unfold callR at q
  split at q
  · rename_i as ha
    split at q
    · rename_i hp
      obtain ⟨ra, key⟩ := rel_args rel hv ha hp
      have l0 := ra.len
      rw [tagA_len] at l0
      refine ⟨hn, F1, as, ra, ?_⟩
      cases hg : g as with
      | bad => rw [hg] at q; exact q.elim
      | ok av outs =>
        rw [hg] at q
        unfold FR.back at q
        dsimp only at q ⊢
        split at q
        · rename_i Γ2 hb
          intro F' H' v r2 e2 a2
          obtain ⟨r3, e3, o3⟩ := rel_back rel hv ha hp hb r2 e2
          refine q F' H' v r3 (e.trans e3) (sh_O _ _ _ _ _ _ _ _ _ _ _ _ e ?_)
          cases av with
          | dat d => exact a2
          | own o =>
            obtain ⟨p, x1, x2, x3, x4, x5⟩ := a2
            have hnew : own (vs.map some) (tagA 0 as) p ∨ H1 p = none := x5
            refine ⟨p, x1, x2, fun z => ?_, x4, ?_⟩
            · rcases o3 p z with z | ⟨z, z2⟩
              · exact x3 z
              · rcases hnew with w | w
                · exact z2 w
                · obtain ⟨_, u, hu⟩ := rel.ownF z
                  rw [w] at hu; cases hu
            · rcases hnew with w | w
              · obtain ⟨j, t, o, h1, h2⟩ := w
                obtain ⟨_, e1⟩ := tagA_own h1
                obtain ⟨i, t', a, k1, k2, k3, k4⟩ := key e1
                rw [h2] at k4
                cases k4
                exact .inl ⟨i, t', o, k2, k3⟩
              · exact .inr w
        · exact q.elim
      | ex n l outs =>
        rw [hg] at q
        unfold FR.back at q
        dsimp only at q ⊢
        split at q
        · rename_i Γ2 hb
          intro F' H' C dx r2 e2 m x
          obtain ⟨r3, e3, _⟩ := rel_back rel hv ha hp hb r2 e2
          exact q F' H' C dx r3 (e.trans e3) m x
        · exact q.elim
    · exact q.elim
  · exact q.elim
end Nv
-- N10
namespace Nv
open PySem PySem.Spec PyProof.Rows L2
open Evl (Ex)
structure DefOk (P : Program) (w : World) (K : PySem.W.Frag) (mg : Str → Option Value) (base : Heap) (k : Nat) (x : Str) (n : Nat) (g : List AV → FR) : Prop where
  ex : ∃ (f : Addr) (fd : FuncData) (ps : List Str), mg x = some (.ref f) ∧ PySem.W.keepIn K (.ref f) = true ∧ Binds K fd ps [] ∧ ps.length = n ∧ FnOk P w K mg base (L2.CX P w) k f fd ps (spD ⟨K, mg⟩ n g)
/-- the class cn may be made; its __init__ -/
structure MakeOk (P : Program) (w : World) (K : PySem.W.Frag) (mg : Str → Option Value) (base : Heap) (k : Nat) (cn : Str) (n : Nat) (g : List AV → FR) : Prop where
  ex : ∃ (C f : Addr) (fd : FuncData) (ps : List Str), mg cn = some (.ref C) ∧ Mk K C f ∧ Binds K fd ps [] ∧ ps.length = n ∧ FnOk P w K mg base (L2.CX P w) k f fd ps (spD ⟨K, mg⟩ n g)
section
variable {X : Cx} {c : Cf} {x m cn : Str} {p pos apos : Pos} {e o : Expr} {es : List Expr} {k k' n : Nat} {g : List AV → FR} {f : Ev → Rs (List OV)} {fo : Ev → Rs OV}
def callO (n : Nat) (g : List AV → FR) (f : Ev → Rs (List OV)) : Ev → Rs AV := fun Γ => (f Γ).bind fun os Γ => if os.length = n then callR g os Γ else .bad
theorem rd_call {σ : L2.St} {H : Hp} {Q : VK} (h : tR c (vrO c.M) (callO n g f) σ H Q) : tR c (vrA c.M) f σ H fun vs H1 => spD c.M n g (vs ++ []) H1 Q (WE c.W σ) := by
  obtain ⟨F, Γ, r, q⟩ := h
  refine ⟨F, Γ, r, ?_⟩
  refine (Po.bind (R := vrA c.M) q).imp fun vs H1 ⟨F1, Γ1, os, r1, e1, a1, q1⟩ => ?_
  split at q1
  · rename_i hl
    rw [List.append_nil]
    exact po_call r1 e1 a1 ((ovsR_get a1).1.trans hl) q1
  · exact q1.elim
theorem do_call (D : DefOk X.prog X.w X.K X.mg X.base k x n g) (hk : k ≤ k') (hr : Room k' X.A) (tk : Takes X c.W) (hM : c.M = ⟨X.K, X.mg⟩) (ha : DA X c (e :: es) f) (hg : Gl X x := by rfl) (hdb : (x == ("__debug__" : Str)) = false := by decide)
    (he : starEach (e :: es) X.env = (false, eval e X.env) :: starEach es X.env := by rfl) (hpl : (backTo pos (starEach es X.env)).any (·.1) = false := by rfl) : DO X c (.Call (.Name x p) (e :: es) [] pos) (callO n g f) := by
  obtain ⟨f0, fd, ps, h1, h2, h3, h4, F⟩ := D.ex
  refine PE.of (pe_callSD F (hr.mono hk) hg h1 h2 h3 .nil (fun σ => passAt tk σ) ha hdb he hpl) fun σ H Q h => ?_
  have q := rd_call h
  rw [hM] at q ⊢
  exact q
def isIns (cn m : Str) : D → Bool
  | .ins n l => n == cn && (l.lookup m).isNone
  | _ => false
def methO (cn m : Str) (n : Nat) (g : List AV → FR) (fo : Ev → Rs OV) (f : Ev → Rs (List OV)) : Ev → Rs AV := fun Γ => (fo Γ).bind fun ov Γ =>
  if (match ov.get Γ with | some d => isIns cn m d | none => false) = true then (f Γ).bind fun os Γ => if os.length + 1 = n then callR g (ov :: os) Γ else .bad
  else .bad
theorem RepF.none {M : Md} {F : Hp} {f : Str} : ∀ {l : List (Str × D)} {xs : List (Str × V)}, RepF M F l xs → l.lookup f = none → xs.lookup f = Option.none
  | [], _, h, e => by rw [repF_nil.mp h]; rfl
  | p :: l, _, h, e => by
    obtain ⟨v, r, rfl, h1, h2⟩ := repF_cons.mp h
    obtain ⟨k, d'⟩ := p
    rw [List.lookup_cons] at e ⊢
    cases q : f == k with
    | true => rw [q] at e; cases e
    | false => rw [q] at e; exact RepF.none h2 e
theorem run_makeSD {C f : Addr} {fd : FuncData} {ps : List Str} {sp : Sp} {E : XK} {CX : CXT} {pins : List (Addr × Obj)} {σ : L2.St} {H : Hp} {s : Shared} {Q : VK} {us : List Value} {vs : List V} (M : Mk X.K C f) (F : FnOk X.prog X.w X.K X.mg X.base CX k f fd ps sp) (hr : Room (k + 1) X.A) (hb : Binds X.K fd ps [])
    (hx : PassesAt CX X σ E) (I : Inv X pins σ H s) (r : Vals vs us)
    (h : ∀ x dx, H x = none → H dx = none → dx ≠ x → sp (.ref x :: vs) (upd (upd H dx (.own x)) x (.ins C dx [])) (fun v H2 => v = .non ∧ Q (.ref x) H2) E) :
    wpAny (model X.prog X.w) X.A (call (.ref C) us) (EP X pins σ Q) X.xe s := by
  have hq := h (s.heap.objs.size + 1) s.heap.objs.size (I.hok.fresh (Nat.le_succ _)) (I.hok.fresh (Nat.le_refl _)) (Nat.ne_of_lt (Nat.lt_succ_self _))
  have I2 := Inv.made (C := C) I
  have r2 : Vals (V.ref (s.heap.objs.size + 1) :: vs) (Value.ref (s.heap.objs.size + 1) :: us) := .cons rfl r
  have hl : (Value.ref (s.heap.objs.size + 1) :: us).length = ps.length := by
    have e := r2.length
    rw [F.len _ _ _ _ hq] at e
    exact e.symm
  have hb2 := hb _ (Value.ref (s.heap.objs.size + 1) :: us) I2.kIn (by rw [List.append_nil]; exact hl)
  rw [List.append_nil] at hb2
  refine wpAny_call (make_map (f := f) I.kIn M.makes M.init (beq_iff_eq.mp M.fn) (codeAny_mono (F.run _ X.stack _ _ ⟨Value.ref (s.heap.objs.size + 1) :: us, []⟩ (Value.ref (s.heap.objs.size + 1) :: us) _ _ E (hr.make C us [])
    (I2.env0.make C us []) hb2 r2 hq) fun r s' hq' => ?_))
  cases r with
  | error e => exact hx pins _ _ e s' I2 hq'
  | ok fl =>
    cases fl with
    | ret u =>
      obtain ⟨v, H', I3, rv, ev, q3⟩ := I2.after hq'
      subst ev
      exact ⟨rv, ⟨V.ref (s.heap.objs.size + 1), H', I3, rfl, q3⟩⟩
    | next => exact False.elim hq'
    | brk => exact False.elim hq'
    | cont => exact False.elim hq'
def tMakeSD (C : Addr) (sp : Sp) (E : L2.St → XK) (t : TA) : TE := fun σ H Q => t σ H fun vs H1 => ∀ x dx, H1 x = none → H1 dx = none → dx ≠ x →
  sp (.ref x :: vs) (upd (upd H1 dx (.own x)) x (.ins C dx [])) (fun v H2 => v = .non ∧ Q (.ref x) H2) (E σ)
theorem pe_makeSD {C f : Addr} {fd : FuncData} {ps : List Str} {sp : Sp} {E : L2.St → XK} {CX : CXT} {t : TA} (M : Mk X.K C f) (F : FnOk X.prog X.w X.K X.mg X.base CX k f fd ps sp) (hr : Room (k + 1) X.A) (hg : Gl X x) (hm : X.mg x = some (.ref C)) (hb : Binds X.K fd ps []) (hx : ∀ σ, PassesAt CX X σ (E σ))
    (ha : PA X (e :: es) t) (hdb : (x == ("__debug__" : Str)) = false := by decide) (he : starEach (e :: es) X.env = (false, eval e X.env) :: starEach es X.env := by rfl) (hpl : (backTo pos (starEach es X.env)).any (·.1) = false := by rfl) :
    PE X (.Call (.Name x p) (e :: es) [] pos) (tMakeSD C sp E t) := by
  refine ⟨fun pins s σ H Q I h => ?_⟩
  refine wpAny_Call_Name_kw (ld_glob I hg hm ?_ hdb)
  refine PySem.W.callWith_K (h₀ := X.base) I.ok.mod.kin M.kp (thn (ha.run pos pins s σ H _ I h) fun us s1 ⟨vs, H1, I1, r, q⟩ => ⟨I1.kIn, ?_⟩) he hpl
  exact run_makeSD M F hr hb (hx σ) I1 r q
def makeR (cn : Str) (g : List AV → FR) (os : List OV) (Γ : Ev) : Rs AV :=
  match dats os with
  | some ds => (match g (.own (.ins cn []) :: ds.map .dat) with
    | .ok (.dat .non) (.own _ o :: _) => .ok (.own o) Γ
    | .ex n l _ => .ex n l Γ
    | _ => .bad)
  | none => .bad
def makeO (cn : Str) (n : Nat) (g : List AV → FR) (f : Ev → Rs (List OV)) : Ev → Rs AV := fun Γ => (f Γ).bind fun os Γ => if os.length + 1 = n then makeR cn g os Γ else .bad
theorem tagA_dats : ∀ {l : List D} {k j : Nat} {g : Slot}, (tagA k (l.map .dat))[j]? = some g → ∃ d, g = .dat d ∧ l[j]? = some d := fun {l k j g} h => by
  rw [tagA_get, List.getElem?_map] at h
  cases e : l[j]? with
  | none => rw [e] at h; cases h
  | some d => rw [e] at h; cases h; exact ⟨d, rfl, rfl⟩
/-- the callee's slots where a new instance is handed on with data -/
theorem rel_make {M : Md} {F H : Hp} {ds : List D} {vs : List V} {C x dx : Addr} {fs : List (Str × V)} (sub : Ex F H) (tb : TabI M F H) (hr : Reps M F ds vs) (hC : M.mg cn = some (.ref C)) (nx : F x = none) (hx : H x = some (.ins C dx [])) :
    Rel M ((V.ref x :: vs).map some) F H ((V.ref x :: vs).map some) (tagA 0 (.own (.ins cn []) :: ds.map .dat)) ∧ ∀ b, own ((V.ref x :: vs).map some) (tagA 0 (.own (.ins cn []) :: ds.map .dat)) b ↔ b = x := by
  have one : ∀ {j : Nat} {t : Option Nat} {o : O}, (tagA 0 (.own (.ins cn []) :: ds.map .dat))[j]? = some (.own t o) → j = 0 := fun {j t o} h => by
    cases j with
    | zero => rfl
    | succ j =>
      rw [tagA_cons, List.getElem?_cons_succ] at h
      obtain ⟨d, h1, _⟩ := tagA_dats h
      cases h1
  refine ⟨⟨sub, by rw [List.length_map, tagA_len, List.length_cons, List.length_cons, List.length_map, hr.length], fun j s g h1 h2 => ?_, fun i j t o t' o' a h1 h2 h3 h4 => by rw [one h1, one h2], tb⟩, fun b => ⟨fun ⟨j, t, o, h1, h2⟩ => ?_, fun h => ?_⟩⟩
  · cases j with
    | zero =>
      cases h1
      cases h2
      exact ⟨x, rfl, nx, ⟨C, dx, [], hC, hx, repF_nil.mpr rfl⟩, fun k hk => by cases hk; rfl⟩
    | succ j =>
      rw [tagA_cons, List.getElem?_cons_succ] at h2
      rw [List.map_cons, List.getElem?_cons_succ, List.getElem?_map] at h1
      obtain ⟨d, rfl, e2⟩ := tagA_dats h2
      obtain ⟨v, x1, x2⟩ := hr.get e2
      rw [x1] at h1
      cases h1
      exact ⟨v, rfl, x2⟩
  · rw [one h1] at h2
    cases h2
    rfl
  · subst h
    exact ⟨0, some 0, .ins cn [], rfl, rfl⟩
theorem rd_make {C : Addr} (hC : c.M.mg cn = some (.ref C)) {σ : L2.St} {H : Hp} {Q : VK} (h : tR c (vrO c.M) (makeO cn n g f) σ H Q) : tMakeSD C (spD c.M n g) (WE c.W) (tR c (vrA c.M) f) σ H Q := by
  obtain ⟨F, Γ, r, q⟩ := h
  refine ⟨F, Γ, r, ?_⟩
  refine (Po.bind (R := vrA c.M) q).imp fun vs H1 ⟨F1, Γ1, os, r1, e1, a1, q1⟩ => ?_
  intro x dx nx ndx ne
  split at q1
  · rename_i hn
    have hlen := (ovsR_get a1).1
    unfold makeR at q1
    split at q1
    · rename_i ds hd
      have hr := dats_reps hd a1
      have n1 : (upd H1 dx (.own x)) x = none := by rw [upd_ne (Ne.symm ne)]; exact nx
      have x1 : Ex H1 (upd (upd H1 dx (.own x)) x (.ins C dx [])) := (Evl.Ex.new ndx).trans (Evl.Ex.new n1)
      have k1 : Keep F1 H1 F1 (upd (upd H1 dx (.own x)) x (.ins C dx [])) := (Keep.upd (none_nt ndx)).trans (Keep.upd (none_nt n1))
      obtain ⟨rm, om⟩ := rel_make (cn := cn) (C := C) (x := x) (dx := dx) (fs := []) (r1.sub.trans x1) (r1.tab.keep k1) hr hC (r1.fr nx) upd_same
      refine ⟨by rw [List.length_cons, hlen, hn], F1, _, rm, ?_⟩
      -- what the caller's own objects are behind __init__
      have back : ∀ {outs : Ev} {F' H' : Hp}, Ext (own ((V.ref x :: vs).map some) (tagA 0 (.own (.ins cn []) :: ds.map .dat))) F1 (upd (upd H1 dx (.own x)) x (.ins C dx [])) (own ((V.ref x :: vs).map some) outs) F' H' → Ex F' H' →
          Rel c.M c.σ0 F' H' σ Γ1 ∧ Ext (own σ Γ1) F1 H1 (own σ Γ1) F' H' ∧ ¬ own σ Γ1 x := fun {outs F' H'} e2 sub2 => by
        have nox : ¬ own σ Γ1 x := fun z => by
          obtain ⟨_, u, hu⟩ := r1.ownF z
          rw [nx] at hu; cases hu
        have st : ∀ b u, H1 b = some u → NTb u → H' b = some u := fun b u hb nt => e2.hh b u (fun z => by rw [(om b).mp z, nx] at hb; cases hb) (x1 b u hb) nt
        have sf : ∀ b u, H1 b = some u → F1 b = none → NT u → F' b = none := fun b u hb hf => e2.fn b u (fun z => by rw [(om b).mp z, nx] at hb; cases hb) (x1 b u hb) hf
        refine ⟨r1.grow e2.ff sub2 (fun b z => ?_) (r1.tab.keep (k1.trans e2.k)), ⟨e2.ff, fun b u _ hb nt => st b u hb nt, fun b u _ hb hf => sf b u hb hf, fun b z => .inl z, k1.trans e2.k⟩, nox⟩
        obtain ⟨f1, u, hu⟩ := r1.ownF z
        exact ⟨by rw [st b u hu (r1.ownNX z hu).ntb, hu], sf b u hu f1 (r1.ownNT z hu)⟩
      cases hg : g (.own (.ins cn []) :: ds.map .dat) with
      | bad => rw [hg] at q1; exact q1.elim
      | ex n' l outs =>
        rw [hg] at q1
        intro F' H' C' dx' r2 e2 m2 x2
        obtain ⟨b1, b2, _⟩ := back e2 r2.sub
        exact q1 F' H' C' dx' b1 (e1.trans b2) m2 x2
      | ok av outs =>
        rw [hg] at q1
        dsimp only at q1 ⊢
        split at q1
        · rename_i t o rest' heq
          cases heq
          intro F' H' v r2 e2 a2
          obtain ⟨b1, b2, b3⟩ := back e2 r2.sub
          have hv : v = .non := rep_non.mp (show Rep c.M F' .non v from a2)
          refine ⟨hv, ?_⟩
          obtain ⟨y, y1, y2, y3, y4, y5⟩ := r2.own (i := 0) rfl
          cases y1
          exact q1 F' H' (.ref x) b1 (e1.trans b2) ⟨x, rfl, y2, b3, y3, e1.back (.inr nx)⟩
        · rename_i heq; cases heq
        · exact q1.elim
    · exact q1.elim
  · exact q1.elim
theorem do_make (D : MakeOk X.prog X.w X.K X.mg X.base k x n g) (hk : k + 1 ≤ k') (hr : Room k' X.A) (tk : Takes X c.W) (hM : c.M = ⟨X.K, X.mg⟩) (ha : DA X c (e :: es) f) (hg : Gl X x := by rfl) (hdb : (x == ("__debug__" : Str)) = false := by decide)
    (he : starEach (e :: es) X.env = (false, eval e X.env) :: starEach es X.env := by rfl) (hpl : (backTo pos (starEach es X.env)).any (·.1) = false := by rfl) : DO X c (.Call (.Name x p) (e :: es) [] pos) (makeO x n g f) := by
  obtain ⟨C, f0, fd, ps, h1, h2, h3, h4, F⟩ := D.ex
  refine PE.of (pe_makeSD h2 F (hr.mono hk) hg h1 h3 (fun σ => passAt tk σ) ha hdb he hpl) fun σ H Q h => ?_
  have q := rd_make (C := C) (by rw [hM]; exact h1) h
  rw [hM] at q ⊢
  exact q
end
end Nv
-- N11
namespace Nv
open PySem PySem.Spec PyProof.Rows L2
open Evl (Ex)
section
variable {X : Cx} {c : Cf} {a b d e : Expr} {rest es : List Expr} {pos : Pos}
def andT (t u : Ev → Rs Bool) : Ev → Rs Bool := fun Γ => (t Γ).bind fun k Γ => if k = true then u Γ else .ok false Γ
def orT (t u : Ev → Rs Bool) : Ev → Rs Bool := fun Γ => (t Γ).bind fun k Γ => if k = true then .ok true Γ else u Γ
def notT (t : Ev → Rs Bool) : Ev → Rs Bool := fun Γ => (t Γ).bind fun k Γ => .ok (!k) Γ
abbrev DW (X : Cx) (c : Cf) (e : Expr) (f : Ev → Rs Bool) : Prop := PW X e (tR c vrT f)
theorem PW.of {X : Cx} {e : Expr} {t t' : TT} (h : PW X e t) (i : ∀ σ H Q, t' σ H Q → t σ H Q) : PW X e t' := ⟨fun wh pins s σ H Q I q => h.run wh pins s σ H Q I (i σ H Q q)⟩
theorem dw_and1 {t : Ev → Rs Bool} (h : DT X c a t) : DW X c (.BoolOp .And [a] pos) t := pw_and1 h
theorem dw_or1 {t : Ev → Rs Bool} (h : DT X c a t) : DW X c (.BoolOp .Or [a] pos) t := pw_or1 h
theorem rd_if {t u : Ev → Rs Bool} {k0 : Bool} {σ : L2.St} {H : Hp} {Q : Bool → Hp → Prop} (h : tR c vrT (fun Γ => (t Γ).bind fun k Γ => if k = true then (if k0 = true then u Γ else .ok true Γ) else (if k0 = true then .ok false Γ else u Γ)) σ H Q) :
    tR c vrT t σ H fun k H1 => if k = true then (if k0 = true then tR c vrT u σ H1 Q else Q true H1) else (if k0 = true then Q false H1 else tR c vrT u σ H1 Q) := by
  obtain ⟨F, Γ, r, q⟩ := h
  refine ⟨F, Γ, r, (Po.bind (R := vrT) q).imp fun v H' ⟨F', Γ', k, r1, e1, a1, q1⟩ => ?_⟩
  have a2 : v = k := a1
  subst a2
  cases v <;> cases k0
  · rw [if_neg (by decide), if_neg (by decide)] at q1 ⊢
    exact ⟨F', Γ', r1, Po.shift sh_T e1 q1⟩
  · rw [if_neg (by decide), if_pos rfl] at q1 ⊢
    exact q1 F' H' false r1 e1 rfl
  · rw [if_pos rfl, if_neg (by decide)] at q1 ⊢
    exact q1 F' H' true r1 e1 rfl
  · rw [if_pos rfl, if_pos rfl] at q1 ⊢
    exact ⟨F', Γ', r1, Po.shift sh_T e1 q1⟩
theorem dw_and {t u : Ev → Rs Bool} (h : DT X c a t) (h2 : DW X c (.BoolOp .And (b :: rest) pos) u) : DW X c (.BoolOp .And (a :: b :: rest) pos) (andT t u) := PW.of (pw_and h h2) fun σ H Q q => rd_if (k0 := true) q
theorem dw_or {t u : Ev → Rs Bool} (h : DT X c a t) (h2 : DW X c (.BoolOp .Or (b :: rest) pos) u) : DW X c (.BoolOp .Or (a :: b :: rest) pos) (orT t u) := PW.of (pw_or h h2) fun σ H Q q => rd_if (k0 := false) q
theorem dt_bool {t : Ev → Rs Bool} (h : DW X c e t) : DT X c e t := h.pt
theorem dt_not {t : Ev → Rs Bool} (h : DT X c a t) : DT X c (.UnaryOp .Not a pos) (notT t) := PT.of (pt_not h) fun σ H Q ⟨F, Γ, r, q⟩ => ⟨F, Γ, r, (Po.bind (R := vrT) q).imp fun v H' ⟨F', Γ', k, r1, e1, a1, q1⟩ => by
  have a2 : v = k := a1
  subst a2
  exact q1 F' H' _ r1 e1 rfl⟩
def andO (f g : Ev → Rs AV) : Ev → Rs AV := fun Γ => (f Γ).bind fun av Γ => match av with
  | .dat (.bl true) => g Γ
  | .dat (.bl false) => .ok (.dat (.bl false)) Γ
  | _ => .bad
def orO (f g : Ev → Rs AV) : Ev → Rs AV := fun Γ => (f Γ).bind fun av Γ => match av with
  | .dat (.bl true) => .ok (.dat (.bl true)) Γ
  | .dat (.bl false) => g Γ
  | _ => .bad
def notO (f : Ev → Rs AV) : Ev → Rs AV := fun Γ => (f Γ).bind fun av Γ => match av with
  | .dat (.bl k) => .ok (.dat (.bl (!k))) Γ
  | _ => .bad
theorem do_one {op : BoolOp} {f : Ev → Rs AV} (h : DO X c a f) : DO X c (.BoolOp op [a] pos) f := pe_one h
theorem do_and {f g : Ev → Rs AV} (h : DO X c a f) (h2 : DO X c (.BoolOp .And (b :: rest) pos) g) : DO X c (.BoolOp .And (a :: b :: rest) pos) (andO f g) := PE.of (pe_and h h2) fun σ H Q ⟨F, Γ, r, q⟩ => ⟨F, Γ, r, (Po.bind (R := vrO c.M) q).imp fun v H' ⟨F', Γ', av, r1, e1, a1, q1⟩ => by
  split at q1
  · exact ⟨true, rep_bl.mp (show Rep c.M F' (.bl true) v from a1), by rw [if_pos rfl]; exact ⟨F', Γ', r1, Po.shift sh_O e1 q1⟩⟩
  · exact ⟨false, rep_bl.mp (show Rep c.M F' (.bl false) v from a1), by rw [if_neg (by decide)]; exact q1 F' H' _ r1 e1 (show Rep _ _ _ _ from rep_bl.mpr rfl)⟩
  · exact q1.elim⟩
theorem do_or {f g : Ev → Rs AV} (h : DO X c a f) (h2 : DO X c (.BoolOp .Or (b :: rest) pos) g) : DO X c (.BoolOp .Or (a :: b :: rest) pos) (orO f g) := PE.of (pe_or h h2) fun σ H Q ⟨F, Γ, r, q⟩ => ⟨F, Γ, r, (Po.bind (R := vrO c.M) q).imp fun v H' ⟨F', Γ', av, r1, e1, a1, q1⟩ => by
  split at q1
  · exact ⟨true, rep_bl.mp (show Rep c.M F' (.bl true) v from a1), by rw [if_pos rfl]; exact q1 F' H' _ r1 e1 (show Rep _ _ _ _ from rep_bl.mpr rfl)⟩
  · exact ⟨false, rep_bl.mp (show Rep c.M F' (.bl false) v from a1), by rw [if_neg (by decide)]; exact ⟨F', Γ', r1, Po.shift sh_O e1 q1⟩⟩
  · exact q1.elim⟩
theorem do_not {f : Ev → Rs AV} (h : DO X c a f) : DO X c (.UnaryOp .Not a pos) (notO f) := PE.of (pe_not h) fun σ H Q ⟨F, Γ, r, q⟩ => ⟨F, Γ, r, (Po.bind (R := vrO c.M) q).imp fun v H' ⟨F', Γ', av, r1, e1, a1, q1⟩ => by
  split at q1
  · rename_i k
    exact ⟨k, rep_bl.mp (show Rep c.M F' (.bl k) v from a1), q1 F' H' _ r1 e1 (show Rep _ _ _ _ from rep_bl.mpr rfl)⟩
  · exact q1.elim⟩
def ifO (t : Ev → Rs Bool) (f g : Ev → Rs AV) : Ev → Rs AV := fun Γ => (t Γ).bind fun k Γ => if k = true then f Γ else g Γ
theorem do_if {t : Ev → Rs Bool} {f g : Ev → Rs AV} (h : DT X c d t) (h1 : DO X c a f) (h2 : DO X c b g) : DO X c (.IfExp d a b pos) (ifO t f g) := PE.of (pe_ifExp h h1 h2) fun σ H Q ⟨F, Γ, r, q⟩ => ⟨F, Γ, r, (Po.bind (R := vrT) q).imp fun v H' ⟨F', Γ', k, r1, e1, a1, q1⟩ => by
  have a2 : v = k := a1
  subst a2
  cases v with
  | true => rw [if_pos rfl] at q1 ⊢; exact ⟨F', Γ', r1, Po.shift sh_O e1 q1⟩
  | false => rw [if_neg (by decide)] at q1 ⊢; exact ⟨F', Γ', r1, Po.shift sh_O e1 q1⟩⟩
def g2 (g : D → D → Option AV) (o1 o2 : OV) (Γ : Ev) : Option AV := match o1.get Γ, o2.get Γ with
  | some x, some y => g x y
  | _, _ => none
def chainO (g g' : D → D → Option AV) (fa fb fc : Ev → Rs OV) : Ev → Rs AV := fun Γ => (fa Γ).bind fun o1 Γ => (fb Γ).bind fun o2 Γ => match g2 g o1 o2 Γ with
  | some (.dat (.bl true)) => (fc Γ).bind fun o3 Γ => op2R g' o2 o3 Γ
  | some (.dat (.bl false)) => .ok (.dat (.bl false)) Γ
  | _ => .bad
theorem rd_chain {r r' : R2} {g g' : D → D → Option AV} (hg : O2 c.M r g) (hg' : O2 c.M r' g') {fa fb fc : Ev → Rs OV} {σ : L2.St} {H : Hp} {Q : VK} (h : tR c (vrO c.M) (chainO g g' fa fb fc) σ H Q) : tChain r r' (tR c (vrB c.M) fa) (tR c (vrB c.M) fb) (tR c (vrB c.M) fc) σ H Q := by
  obtain ⟨F, Γ, rel, q⟩ := h
  refine ⟨F, Γ, rel, ?_⟩
  refine (Po.bind (R := vrB c.M) q).imp fun x H1 ⟨F1, Γ1, o1, r1, e1, a1, q1⟩ => ⟨F1, Γ1, r1, ?_⟩
  refine (Po.bind (R := vrB c.M) (Po.shift sh_O e1 q1)).imp fun y H2 ⟨F2, Γ2, o2, r2, e2, a2, q2⟩ => ?_
  have go : ∀ k : Bool, g2 g o1 o2 Γ2 = some (.dat (.bl k)) → (∀ F' H', Rel c.M c.σ0 F' H' σ Γ2 → Ext (own σ Γ2) F2 H2 (own σ Γ2) F' H' → if k = true then tR c (vrB c.M) fc σ H' (fun w H4 => r' y w H4 Q) else Q (.bl false) H') →
      r x y H2 fun z H3 => ∃ k, z = .bl k ∧ (if k = true then tR c (vrB c.M) fc σ H3 (fun w' H4 => r' y w' H4 Q) else Q (.bl false) H3) := fun k hk hq => by
    unfold g2 at hk
    split at hk
    · rename_i x' y' h1 h2
      refine hg F2 H2 x y x' y' _ _ r2.sub (get_rep r2 h1 (a1.ext e2.ff)) (get_rep r2 h2 a2) hk fun F' H' v x1 x2 x3 => ?_
      have e4 : Ext (own σ Γ2) F2 H2 (own σ Γ2) F' H' := x1.sub fun _ z => z.elim
      exact ⟨k, rep_bl.mp (show Rep c.M F' (.bl k) v from x3), hq F' H' (r2.op x1 x2) e4⟩
    · cases hk
  have q3 := Po.shift sh_O e2 q2
  split at q3
  · rename_i hk
    refine go true hk fun F' H' r3 e3 => ?_
    rw [if_pos rfl]
    refine ⟨F', Γ2, r3, ?_⟩
    refine (Po.bind (R := vrB c.M) (Po.shift sh_O e3 q3)).imp fun w H4 ⟨F4, Γ4, o3, r4, e4, a4, q4⟩ => ?_
    exact po_op2 hg' r4 e4 ((a2.ext e3.ff).ext e4.ff) a4 q4
  · rename_i hk
    refine go false hk fun F' H' r3 e3 => ?_
    rw [if_neg (by decide)]
    exact q3 F' H' _ r3 e3 (show Rep _ _ _ _ from rep_bl.mpr rfl)
  · exact q3.elim
theorem dt_chain {op op' : CmpOp} {r r' : R2} {g g' : D → D → Option AV} {fa fb fc : Ev → Rs OV} (ho : OpR X (compareOp op) r) (hg : O2 c.M r g) (ho' : OpR X (compareOp op') r') (hg' : O2 c.M r' g') (ha : DB X c a fa) (hb : DB X c b fb) (hd : DB X c d fc)
    (hm : lastMarks [op, op'] [b, d] = false := by with_unfolding_all rfl) : DT X c (.Compare a [op, op'] [b, d] pos) (fun Γ => tst (chainO g g' fa fb fc Γ)) := dt_of (pt_chain ho ho' ha hb hd hm) fun σ H Q q => rd_chain hg hg' q
def noPart : Ev → Rs (Option Int) := fun Γ => .ok none Γ
def partO (f : Ev → Rs AV) : Ev → Rs (Option Int) := fun Γ => (f Γ).bind fun av Γ => match av with
  | .dat (.int i) => .ok (some i) Γ
  | _ => .bad
def vrP : VRel (Option Int) (Option Int) := fun _ _ _ _ _ _ _ b c => b = c
abbrev DPt (X : Cx) (c : Cf) (e : Option Expr) (f : Ev → Rs (Option Int)) : Prop := PO X e (tR c vrP f)
theorem PO.of {X : Cx} {e : Option Expr} {t t' : TO} (h : PO X e t) (i : ∀ σ H Q, t' σ H Q → t σ H Q) : PO X e t' := ⟨fun pins s σ H Q I q => h.run pins s σ H Q I (i σ H Q q)⟩
theorem dp_none : DPt X c none noPart := PO.of po_none fun σ H Q ⟨F, Γ, r, q⟩ => q F H none r Ext.refl rfl
theorem dp_some {f : Ev → Rs AV} (h : DO X c e f) : DPt X c (some e) (partO f) := PO.of (po_some h) fun σ H Q ⟨F, Γ, r, q⟩ => ⟨F, Γ, r, (Po.bind (R := vrO c.M) q).imp fun v H' ⟨F', Γ', av, r1, e1, a1, q1⟩ => by
  split at q1
  · rename_i i
    exact ⟨i, rep_int.mp (show Rep c.M F' (.int i) v from a1), q1 F' H' _ r1 e1 rfl⟩
  · exact q1.elim⟩
def cutL {α : Type} (xs : List α) (lo hi : Option Int) : List α := (xs.drop (HT.sIx xs.length 0 lo)).take (HT.sIx xs.length xs.length hi - HT.sIx xs.length 0 lo)
theorem Reps.cut {M : Md} {F : Hp} {l : List D} {xs : List V} (h : Reps M F l xs) (lo hi : Option Int) : Reps M F (cutL l lo hi) (cutV xs lo hi) := by
  unfold cutL cutV
  rw [h.length]
  exact (h.drop _).take _
def gSl (lo hi : Option Int) : D → Option AV
  | .str z => if z.length ≤ sizeLine then some (.dat (.str (cutS z lo hi))) else none
  | .lst l => some (.own (.lst (cutL l lo hi)))
  | .fz l => some (.own (.lst (cutL l lo hi)))
  | .tup l => some (.dat (.tup (cutL l lo hi)))
  | _ => none
def rSlX2 (K : PySem.W.Frag) : V → Option Int → Option Int → Hp → VK → Prop := fun x lo hi H Q => (rSlS x lo hi H Q ∨ rSlL K x lo hi H Q) ∨ rSlA K x lo hi H Q
theorem sl_all2 : SlR X (rSlX2 X.K) := (sl_str.or sl_list).or sl_tupA
theorem strOk_cut {z : Str} {lo hi : Option Int} (h : PyData.strOk z = true) : PyData.strOk (cutS z lo hi) = true := strOk_sub h fun n hn => by
  unfold cutS at hn
  exact List.mem_of_mem_drop (List.mem_of_mem_take hn)
theorem sl_sem {M : Md} {F H : Hp} {x : V} {d : D} {lo hi : Option Int} {av : AV} {Q : VK} (sub : Ex F H) (r1 : Rep1 M F H d x) (e : gSl lo hi d = some av) (h : Nv.Fin M F H av Q) : rSlX2 M.K x lo hi H Q := by
  unfold gSl at e
  split at e
  · rename_i z
    split at e
    · rename_i hz
      cases e
      obtain ⟨rfl, ok⟩ := r1_str r1
      exact .inl (.inl ⟨z, rfl, hz, fin_dat sub h (rep_str.mpr ⟨rfl, strOk_cut ok⟩)⟩)
    · cases e
  · rename_i l
    cases e
    obtain ⟨a, xs, rfl, h1, h2⟩ := r1_lst r1
    exact .inl (.inr ⟨a, xs, rfl, SqL.of h1, fun p n => fin_lst sub h n (h2.cut lo hi)⟩)
  · rename_i l
    cases e
    obtain ⟨a, xs, rfl, h1, h2⟩ := r1_fz r1
    exact .inl (.inr ⟨a, xs, rfl, Evl.ex_l sub h1, fun p n => fin_lst sub h n (h2.cut lo hi)⟩)
  · rename_i l
    cases e
    obtain ⟨a, xs, x0, hT, h2⟩ := rep_tup.mp (show Rep M F (.tup l) x from r1)
    subst x0
    have h1 := hT.sq h2
    refine .inr ⟨a, xs, rfl, Evl.ex_t sub h1, fun hw => fin_dat sub h ?_, fun _ p n => fin_tup sub h n (h2.cut lo hi)⟩
    have e : cutL l lo hi = l := by
      have hw2 := hw
      rw [h2.length] at hw2
      unfold cutL
      rw [hw2.1, hw2.2, List.drop_zero, Nat.sub_zero, List.take_length]
    rw [e]
    exact rep_tup.mpr ⟨a, xs, rfl, hT, h2⟩
  · cases e
def sliceO (f : Ev → Rs OV) (fl fh : Ev → Rs (Option Int)) : Ev → Rs AV := fun Γ => (f Γ).bind fun o Γ => (fl Γ).bind fun lo Γ => (fh Γ).bind fun hi Γ => op1R (gSl lo hi) o Γ
theorem do_slice {lo hi : Option Expr} {p2 : Pos} {f : Ev → Rs OV} {fl fh : Ev → Rs (Option Int)} (hM : c.M = ⟨X.K, X.mg⟩) (h : DB X c e f) (hl : DPt X c lo fl) (hh : DPt X c hi fh) : DO X c (.Subscript e (.Slice lo hi none p2) pos) (sliceO f fl fh) := by
  refine PE.of (pe_slice sl_all2 h hl hh) fun σ H Q ⟨F, Γ, r, q⟩ => ⟨F, Γ, r, ?_⟩
  refine (Po.bind (R := vrB c.M) q).imp fun x H1 ⟨F1, Γ1, o, r1, e1, a1, q1⟩ => ⟨F1, Γ1, r1, ?_⟩
  refine (Po.bind (R := vrP) (Po.shift sh_O e1 q1)).imp fun lo' H2 ⟨F2, Γ2, lo2, r2, e2, a2, q2⟩ => ⟨F2, Γ2, r2, ?_⟩
  have a2 : lo' = lo2 := a2
  subst a2
  refine (Po.bind (R := vrP) (Po.shift sh_O e2 q2)).imp fun hi' H3 ⟨F3, Γ3, hi2, r3, e3, a3, q3⟩ => ?_
  have a3 : hi' = hi2 := a3
  subst a3
  have a4 := (a1.ext e2.ff).ext e3.ff
  have q4 : Po c (vrO c.M) σ F2 H2 Γ2 (op1R (gSl lo' hi') o Γ3) Q := q3
  unfold op1R at q4
  split at q4
  · rename_i d hd
    split at q4
    · rename_i av he
      have q5 := sl_sem (M := c.M) (H := H3) (Q := Q) r3.sub (get_rep r3 hd a4) he fun F' H' v x1 x2 x3 => by
        have e4 : Ext (own σ Γ3) F3 H3 (own σ Γ3) F' H' := x1.sub fun _ z => z.elim
        exact q4 F' H' v (r3.op x1 x2) (e3.trans e4) (sh_O _ _ _ _ _ _ _ _ _ _ _ _ e3 (x3.avr r3))
      rw [hM] at q5
      exact q5
    · exact q4.elim
  · exact q4.elim
/-- xs[::-1] of a list or a text -/
def revS (z : Str) : Str := ⟨z.cps.toList.reverse.toArray⟩
def gRev : D → Option AV
  | .lst l => some (.own (.lst l.reverse))
  | .fz l => some (.own (.lst l.reverse))
  | .str z => if z.length ≤ sizeLine then some (.dat (.str (revS z))) else none
  | _ => none
def strsO : List D → Option (List Str)
  | [] => some []
  | .str z :: r => (strsO r).map (z :: ·)
  | _ :: _ => none
theorem strsO_eq : ∀ {l : List D} {bs : List Str}, strsO l = some bs → l = bs.map .str
  | [], bs, h => by cases h; rfl
  | d :: l, bs, h => by
    unfold strsO at h
    split at h
    · rename_i e; cases e
    · rename_i z r e
      cases e
      obtain ⟨bs', e1, rfl⟩ := Option.map_eq_some_iff.mp h
      rw [strsO_eq e1]; rfl
    · cases h
def joinLen (a : Str) (ys : List Str) : Bool := decide ((ys.map (·.length)).sum + ys.length * a.length ≤ 16777216)
def gJoin (a b : D) : Option AV :=
  match a with
  | .str z => (match (match b with | .lst l => strsO l | .tup l => strsO l | .fz l => strsO l | _ => none) with
    | some ys => if joinLen z ys = true then some (.dat (.str (Txt.join z ys))) else none
    | none => none)
  | _ => none
def joinO (f g : Ev → Rs OV) : Ev → Rs AV := fun Γ => (f Γ).bind fun o1 Γ => match o1.get Γ with
  | some (.str _) => (g Γ).bind fun o2 Γ => op2R gJoin o1 o2 Γ
  | _ => .bad
end
end Nv
-- N12
namespace Nv
open PySem PySem.Spec PyProof.Rows L2
open Evl (Ex)
def chD (z : Str) : List D := z.cps.toList.map fun n => .str ⟨#[n]⟩
def itemsD : D → Option (List D)
  | .lst l => some l
  | .tup l => some l
  | .fz l => some l
  | .str z => some (chD z)
  | _ => none
/-- the items of an operand; the slots that are hidden while it is walked -/
def itemsOV (Γ : Ev) : OV → Option (List D × List Nat)
  | .dat d => (itemsD d).map fun l => (l, [])
  | .slot i => match Γ[i]? with
    | some (.dat d) => (itemsD d).map fun l => (l, [])
    | some (.own _ (.lst l)) => some (l, [i])
    | _ => none
/-- .. and dicts by their keys -/
def itemsD2 : D → Option (List D)
  | .dct l => some (l.map (·.1))
  | d => itemsD d
def itemsOV2 (Γ : Ev) : OV → Option (List D × List Nat)
  | .dat d => (itemsD2 d).map fun l => (l, [])
  | .slot i => match Γ[i]? with
    | some (.dat d) => (itemsD2 d).map fun l => (l, [])
    | some (.own _ (.lst l)) => some (l, [i])
    | _ => none
/-- the objects of the hidden slots stand -/
def pinsOf (σ : L2.St) (Γ : Ev) (H : Hp) (hs : List Nat) : Addr → HO → Prop := fun a u => ∃ i ∈ hs, ∃ t o, Γ[i]? = some (Slot.own t o) ∧ σ[i]? = some (some (.ref a)) ∧ H a = some u
def PoI2 (c : Cf) (σ : L2.St) (F H : Hp) (Γ : Ev) (r : Rs (List D × List Nat)) (R : It → Hp → Prop) : Prop :=
  match r with
  | .ok p Γ' => ∀ F' H' J, Rel c.M c.σ0 F' H' σ Γ' → Ext (own σ Γ) F H (own σ Γ') F' H' → Wk c.M F' (pinsOf σ Γ' H' p.2) p.1 J → R J H'
  | .ex n l Γ' => ∀ F' H' C dx, Rel c.M c.σ0 F' H' σ Γ' → Ext (own σ Γ) F H (own σ Γ') F' H' → c.M.mg n = some (.ref C) → XR c.M F' l dx → c.W (.ref C) dx σ H'
  | .bad => False
def tI2 (c : Cf) (f : Ev → Rs (List D × List Nat)) : TI := fun σ H R => ∃ F Γ, Rel c.M c.σ0 F H σ Γ ∧ PoI2 c σ F H Γ (f Γ) R
abbrev DI2 (X : Cx) (c : Cf) (tg iter : Expr) (f : Ev → Rs (List D × List Nat)) : Prop := PI X tg iter (tI2 c f)
/-- for a for: nothing hidden -/
def bare (f : Ev → Rs (List D × List Nat)) : Ev → Rs (List D) := fun Γ => (f Γ).bind fun p Γ => match p.2 with
  | [] => .ok p.1 Γ
  | _ => .bad
theorem pinsOf_nil {σ : L2.St} {Γ : Ev} {H : Hp} : pinsOf σ Γ H [] = noP := by
  funext a u
  refine propext ⟨fun q => ?_, fun q => False.elim q⟩
  obtain ⟨i, h, _⟩ := q
  cases h
theorem di_of {X : Cx} {c : Cf} {tg iter : Expr} {f : Ev → Rs (List D × List Nat)} (h : DI2 X c tg iter f) : DI X c tg iter (bare f) := by
  refine PI.of h fun σ H R ⟨F, Γ, r, q⟩ => ⟨F, Γ, r, ?_⟩
  unfold bare at q
  cases hf : f Γ with
  | bad => rw [hf] at q; exact q
  | ex n l Γ' => rw [hf] at q; exact q
  | ok p Γ' =>
    rw [hf] at q
    obtain ⟨l, hs⟩ := p
    cases hs with
    | cons a b => exact q.elim
    | nil =>
      intro F' H' J r1 e1 w
      rw [pinsOf_nil] at w
      exact q F' H' J r1 e1 w
theorem chD_reps {M : Md} {F : Hp} {z : Str} (h : PyData.strOk z = true) : Reps M F (chD z) (chV z) := by
  unfold chD chV
  have go : ∀ l : List Nat, (∀ n ∈ l, n ∈ z.cps.toList) → Reps M F (l.map fun n => D.str ⟨#[n]⟩) (l.map fun c => V.str ⟨#[c]⟩) := by
    intro l
    induction l with
    | nil => intro _; exact Reps.nil
    | cons a l ih =>
      intro hm
      exact Reps.cons (rep_str.mpr ⟨rfl, strOk_mem h (hm a List.mem_cons_self)⟩) (ih fun n hn => hm n (List.mem_cons_of_mem _ hn))
  exact go _ fun _ h => h
/-- what an operand is walked as -/
theorem items_seq {c : Cf} {σ : L2.St} {F H : Hp} {Γ : Ev} {o : OV} {v : V} {p : List D × List Nat} (r : Rel c.M c.σ0 F H σ Γ) (hv : ovR c.M σ F v o) (e : itemsOV Γ o = some p) :
    ∃ xs G, SeqG c.M.K v xs G ∧ G H ∧ Reps c.M F p.1 xs ∧ ∀ F' H', Ex F F' → Ex F' H' → (∀ a u, pinsOf σ Γ H p.2 a u → H' a = some u) → G H' := by
  have dat : ∀ {d : D} {l : List D}, Rep c.M F d v → itemsD d = some l → ∃ xs G, SeqG c.M.K v xs G ∧ G H ∧ Reps c.M F l xs ∧ ∀ F' H', Ex F F' → Ex F' H' → (∀ a u, pinsOf σ Γ H [] a u → H' a = some u) → G H' := fun {d l} hr e => by
    unfold itemsD at e
    split at e
    · rename_i l'
      cases e
      obtain ⟨a, xs, rfl, h1, h2⟩ := rep_lst.mp hr
      exact ⟨xs, _, .l a xs, SqL.of (r.sub _ _ h1), h2, fun F' H' e1 e2 _ => SqL.of (e2 _ _ (e1 _ _ h1))⟩
    · rename_i l'
      cases e
      obtain ⟨a, xs, rfl, h1, h2⟩ := rep_tup.mp hr
      exact ⟨xs, _, .t a xs, Evl.ex_t r.sub (h1.sq h2), h2, fun F' H' e1 e2 _ => Evl.ex_t e2 (Evl.ex_t e1 (h1.sq h2))⟩
    · rename_i l'
      cases e
      obtain ⟨a, xs, rfl, h1, h2⟩ := rep_fz.mp hr
      exact ⟨xs, _, .l a xs, Evl.ex_l r.sub h1, h2, fun F' H' e1 e2 _ => Evl.ex_l e2 (Evl.ex_l e1 h1)⟩
    · rename_i z
      cases e
      obtain ⟨rfl, ok⟩ := rep_str.mp hr
      exact ⟨chV z, _, .s z, trivial, chD_reps ok, fun _ _ _ _ _ => trivial⟩
    · cases e
  cases o with
  | dat d =>
    obtain ⟨l, e1, rfl⟩ := Option.map_eq_some_iff.mp e
    exact dat hv e1
  | slot i =>
    unfold itemsOV at e
    dsimp only at e
    split at e
    · rename_i d hd
      obtain ⟨l, e1, rfl⟩ := Option.map_eq_some_iff.mp e
      obtain ⟨w, x1, x2⟩ := r.dat hd
      have q : σ[i]? = some (some v) := hv
      rw [x1] at q
      cases q
      exact dat x2 e1
    · rename_i t l ho
      cases e
      obtain ⟨a, x1, x2, ⟨xs, x3, x4⟩, _⟩ := r.own ho
      have q : σ[i]? = some (some v) := hv
      rw [x1] at q
      cases q
      exact ⟨xs, _, .l a xs, SqL.of x3, x4, fun F' H' e1 e2 hp => SqL.of (hp a _ ⟨i, List.mem_cons_self, t, _, ho, x1, x3⟩)⟩
    · cases e
theorem keys_reps {M : Md} {F : Hp} : ∀ {l : List (D × D)} {xs : List (Key × V)}, RepK M F l xs → Reps M F (l.map (·.1)) (xs.map fun kv => kV kv.1)
  | [], _, h => by unfold RepK at h; subst h; exact Reps.nil
  | (k, d) :: l, _, h => by
    unfold RepK at h
    obtain ⟨q, v, r, rfl, ⟨rfl, hk⟩, _, h4⟩ := h
    rw [List.map_cons, List.map_cons]
    refine Reps.cons ?_ (keys_reps h4)
    cases q with
    | inl i => exact rep_int.mpr rfl
    | inr z => exact rep_str.mpr ⟨rfl, hk⟩
theorem items_seq2 {c : Cf} {σ : L2.St} {F H : Hp} {Γ : Ev} {o : OV} {v : V} {p : List D × List Nat} (r : Rel c.M c.σ0 F H σ Γ) (hv : ovR c.M σ F v o) (e : itemsOV2 Γ o = some p) :
    ∃ xs G, SeqG2 c.M.K v xs G ∧ G H ∧ Reps c.M F p.1 xs ∧ ∀ F' H', Ex F F' → Ex F' H' → (∀ a u, pinsOf σ Γ H p.2 a u → H' a = some u) → G H' := by
  have old : itemsOV Γ o = some p → ∃ xs G, SeqG2 c.M.K v xs G ∧ G H ∧ Reps c.M F p.1 xs ∧ ∀ F' H', Ex F F' → Ex F' H' → (∀ a u, pinsOf σ Γ H p.2 a u → H' a = some u) → G H' := fun e => by
    obtain ⟨xs, G, h1, h2⟩ := items_seq r hv e
    exact ⟨xs, G, .q h1, h2⟩
  have dk : ∀ {l : List (D × D)}, Rep c.M F (.dct l) v → ∃ xs G, SeqG2 c.M.K v xs G ∧ G H ∧ Reps c.M F (l.map (·.1)) xs ∧ ∀ F' H', Ex F F' → Ex F' H' → (∀ a u, pinsOf σ Γ H [] a u → H' a = some u) → G H' := fun {l} hr => by
    obtain ⟨a, kvs, rfl, ⟨od, h1⟩, h2⟩ := rep_dct.mp hr
    exact ⟨_, _, .d a od kvs, r.sub _ _ h1, keys_reps h2, fun F' H' e1 e2 _ => e2 _ _ (e1 _ _ h1)⟩
  cases o with
  | dat d =>
    cases d with
    | dct l =>
      cases e
      exact dk hv
    | _ => exact old e
  | slot i =>
    unfold itemsOV2 at e
    dsimp only at e
    split at e
    · rename_i d hd
      cases d with
      | dct l =>
        cases e
        obtain ⟨w, x1, x2⟩ := r.dat hd
        have q : σ[i]? = some (some v) := hv
        rw [x1] at q
        cases q
        exact dk x2
      | _ =>
        refine old ?_
        unfold itemsOV
        dsimp only
        rw [hd]
        exact e
    · rename_i t l ho
      refine old ?_
      unfold itemsOV
      dsimp only
      rw [ho]
      exact e
    · cases e
section
variable {X : Cx} {c : Cf} {tg e : Expr} {pos p : Pos}
def seqI (f : Ev → Rs OV) : Ev → Rs (List D × List Nat) := fun Γ => (f Γ).bind fun o Γ => match itemsOV2 Γ o with
  | some p => .ok p Γ
  | none => .bad
theorem PoI2.of {σ : L2.St} {F H : Hp} {Γ : Ev} {α β : Type} {R : VRel α β} {r : Rs α} {k : α → Ev → Rs (List D × List Nat)} {Q : It → Hp → Prop} (h : PoI2 c σ F H Γ (r.bind k) Q) :
    Po c R σ F H Γ r fun v H' => ∃ F' Γ' a, Rel c.M c.σ0 F' H' σ Γ' ∧ Ext (own σ Γ) F H (own σ Γ') F' H' ∧ R σ F H Γ F' H' Γ' v a ∧ PoI2 c σ F H Γ (k a Γ') Q := by
  cases r with
  | ok a Γ' => exact fun F' H' v r1 e1 v1 => ⟨F', Γ', a, r1, e1, v1, h⟩
  | ex n l Γ' => exact fun F' H' C dx r1 e1 m x => h F' H' C dx r1 e1 m x
  | bad => exact h
theorem wk_at {M : Md} {F : Hp} {P : Addr → HO → Prop} {l : List D} {xs : List V} {G : Hp → Prop} {J : It} (w : Walk J xs.length G (YAt xs)) (h : Reps M F l xs) (g : ∀ F' H', Ex F F' → Ex F' H' → (∀ a u, P a u → H' a = some u) → G H') : Wk M F P l J := by
  refine ⟨G, YAt xs, (by rw [← h.length]; exact w), g, fun i F' H' v H'' hi e1 e2 ⟨y1, y2⟩ => ?_⟩
  subst y1
  obtain ⟨d, hd, hr⟩ := h.getv y2
  exact ⟨F', d, hd, Ext.refl, e2, hr.mono e1⟩
theorem di_seq {f : Ev → Rs OV} (hM : c.M = ⟨X.K, X.mg⟩) (h : DB X c e f) : DI2 X c tg e (seqI f) := by
  refine PI.of (pi_seq2 h) fun σ H R ⟨F, Γ, r, q⟩ => ⟨F, Γ, r, ?_⟩
  refine Po.imp (PoI2.of (R := vrB c.M) (r := f Γ) q) fun v H1 ⟨F1, Γ1, o, r1, e1, a1, q1⟩ => ?_
  split at q1
  · rename_i p hp
    obtain ⟨xs, G, s1, s2, s3, s4⟩ := items_seq2 r1 a1 hp
    rw [hM] at s1
    exact ⟨xs, G, s1, s2, fun J w => q1 F1 H1 J r1 e1 (wk_at w s3 s4)⟩
  · exact q1.elim
def enumD : Nat → List D → List D
  | _, [] => []
  | k, d :: l => .tup [.int (k : Nat), d] :: enumD (k + 1) l
theorem enumD_len : ∀ {k : Nat} {l : List D}, (enumD k l).length = l.length
  | _, [] => rfl
  | k, d :: l => by unfold enumD; rw [List.length_cons, enumD_len, List.length_cons]
theorem enumD_get : ∀ {k : Nat} {l : List D} {i : Nat} {d : D}, l[i]? = some d → (enumD k l)[i]? = some (.tup [.int ((k + i : Nat)), d])
  | _, [], _, _, h => by cases h
  | k, d :: l, 0, _, h => by cases h; rfl
  | k, d :: l, i + 1, _, h => by
    unfold enumD
    rw [List.getElem?_cons_succ, enumD_get (by simpa using h), show k + 1 + i = k + (i + 1) by omega]
theorem wk_en {M : Md} {F : Hp} {P : Addr → HO → Prop} {l : List D} {xs : List V} {G : Hp → Prop} {J : It} (w : Walk J xs.length G (YEnum 0 xs)) (h : Reps M F l xs) (g : ∀ F' H', Ex F F' → Ex F' H' → (∀ a u, P a u → H' a = some u) → G H') : Wk M F P (enumD 0 l) J := by
  refine ⟨G, YEnum 0 xs, (by rw [enumD_len, ← h.length]; exact w), g, fun i F' H' v H'' hi e1 e2 ⟨T, x, y1, y2, y3, y4⟩ => ?_⟩
  subst y1
  subst y3
  obtain ⟨d, hd, hr⟩ := h.getv y4
  have nf : F' T = none := by
    cases q : F' T with
    | none => rfl
    | some u => rw [e2 _ _ q] at y2; cases y2
  refine ⟨upd F' T (.tup [.int (0 + (i : Nat)), x]), _, enumD_get hd, Ext.newF y2 nf, exNF e2, rep_tup.mpr ⟨T, _, rfl, .inl upd_same, Reps.cons (rep_int.mpr ?_) (Reps.cons ((hr.mono e1).mono (Evl.Ex.new nf)) Reps.nil)⟩⟩
  simp
def enI (f : Ev → Rs (List OV)) : Ev → Rs (List D × List Nat) := fun Γ => (f Γ).bind fun os Γ => match os with
  | [o] => (match itemsOV Γ o with
    | some p => .ok (enumD 0 p.1, p.2) Γ
    | none => .bad)
  | _ => .bad
theorem di_enum {tpos : Pos} {elts : List Expr} {kk : Nat} {f : Ev → Rs (List OV)} (hM : c.M = ⟨X.K, X.mg⟩) (hm : X.mg "enumerate" = none) (h : DA X c [e] f) (hg : Gl X "enumerate" := by rfl) (hs : starEach [e] X.env = [(false, eval e X.env)] := by rfl) :
    DI2 X c (.Tuple elts kk tpos) (.Call (.Name "enumerate" p) [e] [] pos) (enI f) := by
  refine PI.of (pi_enA hg hm h hs) fun σ H R ⟨F, Γ, r, q⟩ => ⟨F, Γ, r, ?_⟩
  refine Po.imp (PoI2.of (R := vrA c.M) (r := f Γ) q) fun vs H1 ⟨F1, Γ1, os, r1, e1, a1, q1⟩ => ?_
  split at q1
  · rename_i o
    split at q1
    · rename_i pp hp
      obtain ⟨v, rfl⟩ : ∃ v, vs = [v] := by
        have hl := (ovsR_get a1).1
        match vs, hl with
        | [v], _ => exact ⟨v, rfl⟩
      obtain ⟨xs, G, s1, s2, s3, s4⟩ := items_seq r1 a1.1 hp
      rw [hM] at s1
      exact ⟨v, xs, G, rfl, s1, s2, fun J w => q1 F1 H1 J r1 e1 (wk_en w s3 s4)⟩
    · exact q1.elim
  · exact q1.elim
def rangeD (lo : Int) (n : Nat) : List D := (List.range n).map fun (i : Nat) => .int (lo + (i : Nat))
def rngOk (i : Int) : Bool := decide (-(2 ^ 62) ≤ i ∧ i < 2 ^ 62)
def rngI1 (f : Ev → Rs (List OV)) : Ev → Rs (List D × List Nat) := fun Γ => (f Γ).bind fun os Γ => match gets Γ os with
  | some [.int j] => if rngOk j = true then .ok (rangeD 0 j.toNat, []) Γ else .bad
  | _ => .bad
def rngI2 (f : Ev → Rs (List OV)) : Ev → Rs (List D × List Nat) := fun Γ => (f Γ).bind fun os Γ => match gets Γ os with
  | some [.int i, .int j] => if rngOk i = true ∧ rngOk j = true then .ok (rangeD i (j - i).toNat, []) Γ else .bad
  | _ => .bad
theorem wk_range {M : Md} {F : Hp} {P : Addr → HO → Prop} {lo : Int} {n : Nat} : Wk M F P (rangeD lo n) (Itr lo n) := by
  refine ⟨fun _ => True, YFn fun i => .int (lo + i), (by unfold rangeD; rw [List.length_map, List.length_range]; exact walk_range), fun _ _ _ _ _ => trivial, fun i F' H' v H'' hi e1 e2 ⟨y1, y2⟩ => ?_⟩
  subst y1
  subst y2
  unfold rangeD at hi ⊢
  rw [List.length_map, List.length_range] at hi
  exact ⟨F', .int (lo + (i : Nat)), by rw [List.getElem?_map, List.getElem?_range hi]; rfl, Ext.refl, e2, rep_int.mpr rfl⟩
theorem di_range1 {f : Ev → Rs (List OV)} (hm : X.mg "range" = none) (h : DA X c [e] f) (hg : Gl X "range" := by rfl) (hs : starEach [e] X.env = [(false, eval e X.env)] := by rfl) : DI2 X c tg (.Call (.Name "range" p) [e] [] pos) (rngI1 f) := by
  refine PI.of (pi_range1 hg hm h hs) fun σ H R ⟨F, Γ, r, q⟩ => ⟨F, Γ, r, ?_⟩
  refine Po.imp (PoI2.of (R := vrA c.M) (r := f Γ) q) fun vs H1 ⟨F1, Γ1, os, r1, e1, a1, q1⟩ => ?_
  split at q1
  · rename_i j hj
    split at q1
    · rename_i ok
      have hr := gets_rep r1 hj a1
      obtain ⟨v, rfl, hv⟩ := reps1_1 hr
      cases r1_int hv
      obtain ⟨k1, k2⟩ := of_decide_eq_true (p := -(2 ^ 62) ≤ j ∧ j < 2 ^ 62) ok
      exact ⟨j, rfl, k1, k2, q1 F1 H1 _ r1 e1 wk_range⟩
    · exact q1.elim
  · exact q1.elim
end
end Nv
-- N13
namespace Nv
open PySem PySem.Spec PyProof.Rows L2
open Evl (Ex)
def wipeG (Γ : Ev) : List Nat → Ev
  | [] => Γ
  | v :: vs => (wipeG Γ vs).set v .un
def unw (Γ Γe : Ev) : List Nat → Ev
  | [] => Γe
  | v :: vs => match Γ[v]? with
    | some g => (unw Γ Γe vs).set v g
    | none => unw Γ Γe vs
def anchor : Ev → Ev → Ev
  | .own _ _ :: G, s :: G' => s :: anchor G G'
  | g :: G, _ :: G' => g :: anchor G G'
  | _, _ => []
theorem wipeG_len {Γ : Ev} : ∀ {vs : List Nat}, (wipeG Γ vs).length = Γ.length
  | [] => rfl
  | v :: vs => by unfold wipeG; rw [List.length_set, wipeG_len]
theorem wipeG_get {Γ : Ev} {i : Nat} {g : Slot} : ∀ {vs : List Nat}, (wipeG Γ vs)[i]? = some g → (i ∈ vs ∧ g = .un) ∨ (i ∉ vs ∧ Γ[i]? = some g)
  | [], h => .inr ⟨by simp, h⟩
  | v :: vs, h => by
    unfold wipeG at h
    by_cases z : v = i
    · subst z
      have hl := (List.getElem?_eq_some_iff.mp h).1
      rw [List.length_set] at hl
      rw [List.getElem?_set_self hl] at h
      cases h
      exact .inl ⟨List.mem_cons_self, rfl⟩
    · rw [List.getElem?_set_ne z] at h
      rcases wipeG_get h with ⟨h1, h2⟩ | ⟨h1, h2⟩
      · exact .inl ⟨List.mem_cons_of_mem _ h1, h2⟩
      · exact .inr ⟨fun q => by
          rcases List.mem_cons.mp q with q | q
          · exact z q.symm
          · exact h1 q, h2⟩
theorem unw_len {Γ Γe : Ev} : ∀ {vs : List Nat}, (unw Γ Γe vs).length = Γe.length
  | [] => rfl
  | v :: vs => by
    unfold unw
    split
    · rw [List.length_set, unw_len]
    · exact unw_len
theorem unw_get {Γ Γe : Ev} {i : Nat} {g : Slot} (hl : Γe.length = Γ.length) : ∀ {vs : List Nat}, (unw Γ Γe vs)[i]? = some g → (i ∈ vs ∧ Γ[i]? = some g) ∨ (i ∉ vs ∧ Γe[i]? = some g)
  | [], h => .inr ⟨by simp, h⟩
  | v :: vs, h => by
    have hi : i < Γ.length := by
      have q := (List.getElem?_eq_some_iff.mp h).1
      rw [unw_len, hl] at q
      exact q
    unfold unw at h
    by_cases z : v = i
    · subst z
      rw [List.getElem?_eq_getElem hi] at h
      dsimp only at h
      rw [List.getElem?_set_self (by rw [unw_len, hl]; exact hi)] at h
      cases h
      exact .inl ⟨List.mem_cons_self, List.getElem?_eq_getElem hi⟩
    · have h2 : (unw Γ Γe vs)[i]? = some g := by
        split at h
        · rw [List.getElem?_set_ne z] at h; exact h
        · exact h
      rcases unw_get hl h2 with ⟨h1, h2⟩ | ⟨h1, h2⟩
      · exact .inl ⟨List.mem_cons_of_mem _ h1, h2⟩
      · exact .inr ⟨fun q => by
          rcases List.mem_cons.mp q with q | q
          · exact z q.symm
          · exact h1 q, h2⟩
theorem anchor_len : ∀ {G G' : Ev}, G.length = G'.length → (anchor G G').length = G.length
  | [], _, _ => rfl
  | _ :: _, [], h => by cases h
  | g :: G, s :: G', h => by
    have h2 : G.length = G'.length := by simpa using h
    cases g with
    | un => show (Slot.un :: anchor G G').length = _; rw [List.length_cons, anchor_len h2, List.length_cons]
    | dat d => show (Slot.dat d :: anchor G G').length = _; rw [List.length_cons, anchor_len h2, List.length_cons]
    | own t o => unfold anchor; rw [List.length_cons, anchor_len h2, List.length_cons]
theorem anchor_get : ∀ {G G' : Ev} {i : Nat} {g : Slot}, (anchor G G')[i]? = some g → (∃ t o, G[i]? = some (.own t o) ∧ G'[i]? = some g) ∨ ((∀ t o, g ≠ .own t o) ∧ G[i]? = some g)
  | [], _, i, g, h => by unfold anchor at h; cases h; all_goals exact fun _ _ _ _ _ z => nomatch z
  | _ :: _, [], i, g, h => by
    rename_i a b
    cases a <;> cases h
  | a :: G, s :: G', i, g, h => by
    cases a with
    | un =>
      have h' : (Slot.un :: anchor G G')[i]? = some g := h
      cases i with
      | zero => cases h'; exact .inr ⟨(fun _ _ z => nomatch z), rfl⟩
      | succ i => simpa using anchor_get (G := G) (G' := G') (i := i) (g := g) (by simpa using h')
    | dat d =>
      have h' : (Slot.dat d :: anchor G G')[i]? = some g := h
      cases i with
      | zero => cases h'; exact .inr ⟨(fun _ _ z => nomatch z), rfl⟩
      | succ i => simpa using anchor_get (G := G) (G' := G') (i := i) (g := g) (by simpa using h')
    | own t o =>
      have h' : (s :: anchor G G')[i]? = some g := h
      cases i with
      | zero => cases h'; exact .inl ⟨t, o, rfl, rfl⟩
      | succ i => simpa using anchor_get (G := G) (G' := G') (i := i) (g := g) (by simpa using h')
theorem wipe_idem {σ : L2.St} {vs : List Nat} : wipe (wipe σ vs) vs = wipe σ vs := by
  have key : ∀ (ws : List Nat), (∀ i ∈ ws, i ∈ vs) → wipe (wipe σ vs) ws = wipe σ vs := by
    intro ws
    induction ws with
    | nil => intro _; rfl
    | cons w ws ih =>
      intro h
      show (wipe (wipe σ vs) ws).set w none = wipe σ vs
      rw [ih fun i hi => h i (List.mem_cons_of_mem _ hi)]
      have hw := h w List.mem_cons_self
      -- the slot w is none already, or not there
      apply List.ext_getElem?
      intro j
      by_cases z : w = j
      · subst z
        by_cases hl : w < (wipe σ vs).length
        · rw [List.getElem?_set_self hl]
          cases e : (wipe σ vs)[w]? with
          | none => rw [List.getElem?_eq_getElem hl] at e; cases e
          | some o =>
            cases o with
            | none => rfl
            | some x => exact absurd hw (wipe_some e).2
        · rw [List.getElem?_eq_none (by rw [List.length_set]; omega), List.getElem?_eq_none (by omega)]
      · rw [List.getElem?_set_ne z]
  exact key vs fun _ h => h
theorem Ext.wk {A B B' : Addr → Prop} {F H F' H' : Hp} (e : Ext B F H B' F' H') (h : ∀ b, B b → A b) : Ext A F H B' F' H' :=
  ⟨e.ff, fun b o n => e.hh b o fun z => n (h b z), fun b o n => e.fn b o fun z => n (h b z), fun b z => (e.aa b z).imp (h b) id, e.k⟩
section
variable {M : Md} {σ0 σ σ2 : L2.St} {F H F1 H1 : Hp} {Γ Γ0 Γ1 Γ2 : Ev} {vs hs : List Nat}
/-- the block's names, and what is hidden, forgotten -/
theorem rel_wipe (r : Rel M σ0 F H σ Γ) (h : ∀ i ∈ vs, i ∈ hs) : Rel M σ0 F H (L2.wipe σ vs) (wipeG Γ hs) := by
  refine ⟨r.sub, by rw [wipe_length, wipeG_len, r.len], fun i s g h1 h2 => ?_, fun i j t o t' o' a h1 h2 h3 h4 => ?_, r.tab⟩
  · rcases wipeG_get h2 with ⟨_, rfl⟩ | ⟨n, h2⟩
    · trivial
    · rw [wipe_out fun z => n (h i z)] at h1
      exact r.slot i s g h1 h2
  · rcases wipeG_get h1 with ⟨_, z⟩ | ⟨n, h1⟩
    · cases z
    · rcases wipeG_get h2 with ⟨_, z⟩ | ⟨n2, h2⟩
      · cases z
      · rw [wipe_out fun z => n (h _ z)] at h3
        rw [wipe_out fun z => n2 (h _ z)] at h4
        exact r.sep i j t o t' o' a h1 h2 h3 h4
theorem own_wipe (h : ∀ i ∈ vs, i ∈ hs) {b : Addr} (q : own (L2.wipe σ vs) (wipeG Γ hs) b) : ∃ i t o, i ∉ hs ∧ Γ[i]? = some (Slot.own t o) ∧ σ[i]? = some (some (V.ref b)) := by
  obtain ⟨i, t, o, h1, h2⟩ := q
  rcases wipeG_get h1 with ⟨_, z⟩ | ⟨n, h1⟩
  · cases z
  · rw [wipe_out fun z => n (h _ z)] at h2
    exact ⟨i, t, o, n, h1, h2⟩
/-- behind a turn -/
theorem rel_anchor (r0 : Rel M σ0 F1 H1 (L2.wipe σ vs) Γ0) (r : Rel M σ0 F H σ2 Γ2) (e : Ex F1 F) (hw : L2.wipe σ2 vs = L2.wipe σ vs) (hv : ∀ i t o, Γ0[i]? = some (Slot.own t o) → i ∉ vs) :
    Rel M σ0 F H (L2.wipe σ vs) (Nv.anchor Γ0 Γ2) ∧ (∀ b, own (L2.wipe σ vs) (Nv.anchor Γ0 Γ2) b → own (L2.wipe σ vs) Γ0 b ∧ own σ2 Γ2 b) := by
  have l0 := r0.len
  have l2 := r.len
  have lw : (L2.wipe σ vs).length = σ2.length := by rw [← hw, wipe_length]
  have same : ∀ {i : Nat}, i ∉ vs → (L2.wipe σ vs)[i]? = σ2[i]? := fun {i} n => by rw [← hw, wipe_out n]
  refine ⟨⟨r.sub, by rw [anchor_len (by rw [← l0, lw, l2]), l0], fun i s g h1 h2 => ?_, fun i j t o t' o' a h1 h2 h3 h4 => ?_, r.tab⟩, fun b ⟨i, t, o, h1, h2⟩ => ?_⟩
  · rcases anchor_get h2 with ⟨t, o, g1, g2⟩ | ⟨n, g1⟩
    · rw [same (hv i t o g1)] at h1
      exact r.slot i s g h1 g2
    · have q := r0.slot i s g h1 g1
      cases g with
      | un => trivial
      | dat d => obtain ⟨v, q1, q2⟩ := q; exact ⟨v, q1, q2.mono e⟩
      | own t o => exact absurd rfl (n t o)
  · rcases anchor_get h1 with ⟨t1, o1, g1, g2⟩ | ⟨n, g1⟩
    · rcases anchor_get h2 with ⟨t2, o2, g3, g4⟩ | ⟨n, g3⟩
      · rw [same (hv i _ _ g1)] at h3
        rw [same (hv j _ _ g3)] at h4
        exact r.sep i j _ _ _ _ a g2 g4 h3 h4
      · exact absurd rfl (n _ _)
    · exact absurd rfl (n _ _)
  · rcases anchor_get h1 with ⟨t1, o1, g1, g2⟩ | ⟨n, g1⟩
    · refine ⟨⟨i, t1, o1, g1, h2⟩, i, t, o, g2, ?_⟩
      rw [same (hv i _ _ g1)] at h2
      exact h2
    · exact absurd rfl (n _ _)
/-- at the end of the block -/
theorem rel_unw (r1 : Rel M σ0 F1 H1 σ Γ1) (h : ∀ i ∈ vs, i ∈ hs) (r : Rel M σ0 F H (L2.wipe σ vs) Γ2) (e : Ext (own (L2.wipe σ vs) (wipeG Γ1 hs)) F1 H1 (own (L2.wipe σ vs) Γ2) F H) (hsub : ∀ b, own (L2.wipe σ vs) Γ2 b → own (L2.wipe σ vs) (wipeG Γ1 hs) b) :
    Rel M σ0 F H σ (Nv.unw Γ1 Γ2 hs) ∧ Ext (own σ Γ1) F1 H1 (own σ (Nv.unw Γ1 Γ2 hs)) F H ∧ ∀ b, own σ (Nv.unw Γ1 Γ2 hs) b → own σ Γ1 b := by
  have ll : Γ2.length = Γ1.length := by rw [← r.len, wipe_length, r1.len]
  -- what is hidden is not the block's own
  have apart : ∀ {i : Nat} {t : Option Nat} {o : O} {a : Addr}, i ∈ hs → Γ1[i]? = some (Slot.own t o) → σ[i]? = some (some (V.ref a)) → ¬ own (L2.wipe σ vs) (wipeG Γ1 hs) a := fun {i t o a} hi h1 h2 z => by
    obtain ⟨j, t', o', n, g1, g2⟩ := own_wipe h z
    have q := r1.sep i j _ _ _ _ a h1 g1 h2 g2
    subst q
    exact n hi
  have sub1 : ∀ b, own (L2.wipe σ vs) (wipeG Γ1 hs) b → own σ Γ1 b := fun b z => by
    obtain ⟨j, t', o', n, g1, g2⟩ := own_wipe h z
    exact ⟨j, t', o', g1, g2⟩
  have ownsub : ∀ b, own σ (Nv.unw Γ1 Γ2 hs) b → own σ Γ1 b := fun b ⟨i, t, o, h1, h2⟩ => by
    rcases unw_get ll h1 with ⟨_, g1⟩ | ⟨n, g1⟩
    · exact ⟨i, t, o, g1, h2⟩
    · refine sub1 b (hsub b ⟨i, t, o, g1, ?_⟩)
      rw [wipe_out fun z => n (h i z)]
      exact h2
  refine ⟨⟨r.sub, by rw [unw_len, ll, r1.len], fun i s g h1 h2 => ?_, fun i j t o t' o' a h1 h2 h3 h4 => ?_, r.tab⟩, ⟨e.ff, fun b o n => e.hh b o fun z => n (sub1 b z), fun b o n => e.fn b o fun z => n (sub1 b z), fun b z => .inl (ownsub b z), e.k⟩, ownsub⟩
  · rcases unw_get ll h2 with ⟨m, g1⟩ | ⟨n, g1⟩
    · have q := r1.slot i s g h1 g1
      cases g with
      | un => trivial
      | dat d => obtain ⟨v, q1, q2⟩ := q; exact ⟨v, q1, q2.mono e.ff⟩
      | own t o =>
        obtain ⟨a, q1, q2, q3, q4⟩ := q
        subst q1
        obtain ⟨u, hu⟩ := q3.some
        have na := apart m g1 h1
        exact ⟨a, rfl, e.fn a u na hu q2 (q3.nt hu), q3.mono e.ff (by rw [e.hh a u na hu (q3.ntb hu), hu]), q4⟩
    · refine r.slot i s g ?_ g1
      rw [wipe_out fun z => n (h i z)]
      exact h1
  · have new : ∀ {i : Nat} {t : Option Nat} {o : O} {a : Addr}, i ∉ hs → Γ2[i]? = some (Slot.own t o) → σ[i]? = some (some (V.ref a)) → (L2.wipe σ vs)[i]? = some (some (V.ref a)) ∧ own (L2.wipe σ vs) (wipeG Γ1 hs) a := fun {i t o a} n g1 g2 => by
      have q : (L2.wipe σ vs)[i]? = some (some (V.ref a)) := by rw [wipe_out fun z => n (h i z)]; exact g2
      exact ⟨q, hsub a ⟨i, t, o, g1, q⟩⟩
    rcases unw_get ll h1 with ⟨m, g1⟩ | ⟨n, g1⟩
    · rcases unw_get ll h2 with ⟨m2, g2⟩ | ⟨n2, g2⟩
      · exact r1.sep i j _ _ _ _ a g1 g2 h3 h4
      · exact absurd (new n2 g2 h4).2 (apart m g1 h3)
    · rcases unw_get ll h2 with ⟨m2, g2⟩ | ⟨n2, g2⟩
      · exact absurd (new n g1 h3).2 (apart m2 g2 h4)
      · exact r.sep i j _ _ _ _ a g1 g2 (new n g1 h3).1 (new n2 g2 h4).1
end
/-- the turns of a comprehension -/
def compL (Γ0 : Ev) (g : TgF) (t : Ev → Rs Bool) (f : Ev → Rs D) : List D → List D → Ev → Option (List D × Ev)
  | [], acc, Γ => some (acc, Γ)
  | d :: r, acc, Γ => match g d Γ with
    | none => none
    | some Γ1 => match t Γ1 with
      | .ok true Γ2 => (match f Γ2 with
        | .ok y Γ3 => if acc.length < sizeLine then compL Γ0 g t f r (acc ++ [y]) (anchor Γ0 Γ3) else none
        | _ => none)
      | .ok false Γ2 => compL Γ0 g t f r acc (anchor Γ0 Γ2)
      | _ => none
def compO (vs : List Nat) (src : Ev → Rs (List D × List Nat)) (g : TgF) (t : Ev → Rs Bool) (f : Ev → Rs D) : Ev → Rs AV := fun Γ => (src Γ).bind fun p Γ1 =>
  match compL (wipeG Γ1 (vs ++ p.2)) g t f p.1 [] (wipeG Γ1 (vs ++ p.2)) with
  | some (acc, Γ2) => .ok (.own (.lst acc)) (unw Γ1 Γ2 (vs ++ p.2))
  | none => .bad
/-- in a comprehension nothing is raised -/
abbrev Cf.calm (c : Cf) : Cf := ⟨c.M, c.σ0, fun _ _ _ _ => False⟩
theorem PoI2.imp {c : Cf} {σ : L2.St} {F H : Hp} {Γ : Ev} {r : Rs (List D × List Nat)} {R R' : It → Hp → Prop} (h : PoI2 c σ F H Γ r R) (i : ∀ J H', R J H' → R' J H') : PoI2 c σ F H Γ r R' := by
  cases r with
  | ok a Γ' => exact fun F' H' J r1 e1 v1 => i _ _ (h F' H' J r1 e1 v1)
  | ex n l Γ' => exact h
  | bad => exact h
theorem PoI2.bind2 {c : Cf} {σ : L2.St} {F H : Hp} {Γ : Ev} {α β : Type} {S : VRel α β} {Q : β → Hp → Prop} {r : Rs (List D × List Nat)} {k : List D × List Nat → Ev → Rs α} (h : Po c S σ F H Γ (r.bind k) Q) :
    PoI2 c σ F H Γ r fun J H' => ∃ F' Γ' p, Rel c.M c.σ0 F' H' σ Γ' ∧ Ext (own σ Γ) F H (own σ Γ') F' H' ∧ Wk c.M F' (pinsOf σ Γ' H' p.2) p.1 J ∧ Po c S σ F H Γ (k p Γ') Q := by
  cases r with
  | ok a Γ' => exact fun F' H' J r1 e1 v1 => ⟨F', Γ', a, r1, e1, v1, h⟩
  | ex n l Γ' => exact h
  | bad => exact h
theorem rd_lc {c : Cf} {vs ts : List Nat} {src : Ev → Rs (List D × List Nat)} {tg : TG} {g : TgF} {t : Ev → Rs Bool} {f : Ev → Rs D} (gs : GSpec c tg ts g) (hts : ∀ i ∈ ts, i ∈ vs) {σ : L2.St} {H : Hp} {Q : VK} (h : tR c (vrO c.M) (compO vs src g t f) σ H Q) :
    tLc (tI2 c src) tg (tR c.calm vrT t) (tR c.calm (vrD c.M) f) vs σ H Q := by
  obtain ⟨F, Γ, r, q⟩ := h
  refine ⟨F, Γ, r, (PoI2.bind2 q).imp fun J H1 ⟨F1, Γ1, ⟨items, hs⟩, r1, e1, ⟨G, Y, w, hG, hY⟩, q1⟩ => ?_⟩
  intro D nD
  dsimp only at w hG hY q1
  have hv : ∀ i ∈ vs, i ∈ vs ++ hs := fun i hi => List.mem_append_left _ hi
  have r0 : Rel c.M c.σ0 F1 H1 (L2.wipe σ vs) (wipeG Γ1 (vs ++ hs)) := rel_wipe r1 hv
  have hvs : ∀ i t o, (wipeG Γ1 (vs ++ hs))[i]? = some (Slot.own t o) → i ∉ vs := fun i t o q z => by
    rcases wipeG_get q with ⟨_, e⟩ | ⟨n, _⟩
    · cases e
    · exact n (hv i z)
  have nD0 : ¬ own (L2.wipe σ vs) (wipeG Γ1 (vs ++ hs)) D := fun z => by
    obtain ⟨_, u, hu⟩ := r0.ownF z
    rw [nD] at hu; cases hu
  cases hc : compL (wipeG Γ1 (vs ++ hs)) g t f items [] (wipeG Γ1 (vs ++ hs)) with
  | none => rw [hc] at q1; exact q1.elim
  | some res =>
    rw [hc] at q1
    obtain ⟨accF, ΓF⟩ := res
    dsimp only at q1
    -- the state ahead of a turn
    refine lc_it w (fun i H' => ∃ F' Γ' acc, Rel c.M c.σ0 F' H' (L2.wipe σ vs) Γ' ∧ Ext (own (L2.wipe σ vs) (wipeG Γ1 (vs ++ hs))) F1 H1 (own (L2.wipe σ vs) Γ') F' H' ∧
      (∃ xs, H' D = some (.lst xs) ∧ Reps c.M F' acc xs) ∧ F' D = none ∧ (∀ b, own (L2.wipe σ vs) Γ' b → own (L2.wipe σ vs) (wipeG Γ1 (vs ++ hs)) b) ∧ compL (wipeG Γ1 (vs ++ hs)) g t f (items.drop i) acc Γ' = some (accF, ΓF))
      ⟨F1, _, [], r0.new nD, Ext.new nD, ⟨[], upd_same, Reps.nil⟩, r1.fr nD, fun _ z => z, hc⟩ ?_ ?_ ?_
    · rintro i H' hi ⟨F', Γ', acc, ra, ea, _⟩
      refine hG F' H' ea.ff ra.sub fun a u ⟨j, hj, t', o', g1, g2, g3⟩ => ?_
      refine ea.hh a u (fun z => ?_) g3 (r1.ownNX ⟨j, t', o', g1, g2⟩ g3).ntb
      obtain ⟨k, t2, o2, n, k1, k2⟩ := own_wipe hv z
      have z2 := r1.sep j k _ _ _ _ a g1 k1 g2 k2
      subst z2
      exact n (List.mem_append_right _ hj)
    · rintro i x H' H'' hi ⟨F', Γ', acc, ra, ea, ⟨xs, hD, hacc⟩, fD, osub, hcl⟩ hy
      obtain ⟨F2, d, hd, e2, sub2, rd⟩ := hY i F' H' x H'' hi ea.ff ra.sub hy
      have ra2 := ra.op e2 sub2
      have ea2 : Ext (own (L2.wipe σ vs) (wipeG Γ1 (vs ++ hs))) F1 H1 (own (L2.wipe σ vs) Γ') F2 H'' := ea.trans (e2.sub fun _ z => z.elim)
      have hD2 : H'' D = some (.lst xs) := e2.hh D _ id hD trivial
      have fD2 : F2 D = none := e2.fn D _ id hD fD trivial
      have hacc2 := hacc.mono e2.ff
      have hdrop : items.drop i = d :: items.drop (i + 1) := by
        obtain ⟨h1, h2⟩ := List.getElem?_eq_some_iff.mp hd
        rw [← h2]
        exact List.drop_eq_getElem_cons h1
      rw [hdrop] at hcl
      unfold compL at hcl
      cases hgd : g d Γ' with
      | none => rw [hgd] at hcl; cases hcl
      | some Γ3 =>
        rw [hgd] at hcl
        dsimp only at hcl
        refine gs (L2.wipe σ vs) F2 H'' Γ' x d Γ3 _ ra2 rd hgd fun σ3 x1 x2 x3 => ?_
        have hw3 : L2.wipe σ3 vs = L2.wipe σ vs := by rw [x3 vs hts, wipe_idem]
        refine ⟨hw3, F2, Γ3, x1, ?_⟩
        have nD3 : ¬ own σ3 Γ3 D := fun z => nD0 (osub D (x2 D z))
        -- what is done at the end of the turn
        have fin : ∀ {F5 H5 : Hp} {Γ5 : Ev} {acc5 : List Nv.D} {xs5 : List V}, Rel c.M c.σ0 F5 H5 σ3 Γ5 → Ext (own σ3 Γ3) F2 H'' (own σ3 Γ5) F5 H5 → H5 D = some (.lst xs5) → F5 D = none →
            ∀ {ys : List V}, Reps c.M F5 acc5 ys → compL (wipeG Γ1 (vs ++ hs)) g t f (items.drop (i + 1)) acc5 (anchor (wipeG Γ1 (vs ++ hs)) Γ5) = some (accF, ΓF) →
            ∃ F' Γ' acc, Rel c.M c.σ0 F' (upd H5 D (.lst ys)) (L2.wipe σ vs) Γ' ∧ Ext (own (L2.wipe σ vs) (wipeG Γ1 (vs ++ hs))) F1 H1 (own (L2.wipe σ vs) Γ') F' (upd H5 D (.lst ys)) ∧
              (∃ xs, (upd H5 D (.lst ys)) D = some (.lst xs) ∧ Reps c.M F' acc xs) ∧ F' D = none ∧ (∀ b, own (L2.wipe σ vs) Γ' b → own (L2.wipe σ vs) (wipeG Γ1 (vs ++ hs)) b) ∧ compL (wipeG Γ1 (vs ++ hs)) g t f (items.drop (i + 1)) acc Γ' = some (accF, ΓF) :=
          fun {F5 H5 Γ5 acc5 xs5} r5 e5 hD5 fD5 {ys} hr5 hc5 => by
            obtain ⟨y1, y2⟩ := rel_anchor r0 r5 (ea2.ff.trans e5.ff) hw3 hvs
            have ex : Ext (own (L2.wipe σ vs) (wipeG Γ1 (vs ++ hs))) F1 H1 (own (L2.wipe σ vs) (anchor (wipeG Γ1 (vs ++ hs)) Γ5)) F5 H5 :=
              (ea2.trans ((e5.wk x2).subA fun b z => (y2 b z).2))
            have nDa : ¬ own (L2.wipe σ vs) (anchor (wipeG Γ1 (vs ++ hs)) Γ5) D := fun z => nD0 (y2 D z).1
            refine ⟨F5, _, acc5, ?_, ?_, ⟨ys, upd_same, hr5⟩, fD5, fun b z => (y2 b z).1, hc5⟩
            · refine y1.grow (Evl.Ex.refl _) (fun b u hb => ?_) (fun b z => ⟨upd_ne fun e => nDa (e ▸ z), (y1.ownF z).1⟩) (y1.tab.upd fun u hu => by rw [hD5] at hu; cases hu; trivial)
              rw [upd_ne fun e => by rw [e, fD5] at hb; cases hb]
              exact r5.sub b u hb
            · refine ⟨ex.ff, fun b u n hb nt => ?_, ex.fn, ex.aa, ex.k.trans (Keep.upd fun u hu => by rw [hD5] at hu; cases hu; trivial)⟩
              rw [upd_ne (ne_of_none hb nD)]
              exact ex.hh b u n hb nt
        cases ht : t Γ3 with
        | bad => rw [ht] at hcl; cases hcl
        | ex n l Γ4 => rw [ht] at hcl; cases hcl
        | ok b Γ4 =>
          rw [ht] at hcl
          intro F4 H4 v r4 e4 ev
          have ev2 : v = b := ev
          subst ev2
          have hD4 : H4 D = some (.lst xs) := e4.hh D _ nD3 hD2 trivial
          have fD4 : F4 D = none := e4.fn D _ nD3 hD2 fD2 trivial
          have nD4 : ¬ own σ3 Γ4 D := fun z => by
            rcases e4.aa D z with z | z
            · exact nD3 z
            · rw [hD2] at z; cases z
          cases v with
          | false =>
            rw [if_neg (by decide)]
            have z := fin r4 e4 hD4 fD4 (hacc2.mono e4.ff) hcl
            have same : upd H4 D (.lst xs) = H4 := by
              funext b
              by_cases hb : b = D
              · subst hb; rw [upd_same, hD4]
              · rw [upd_ne hb]
            rw [same] at z
            exact z
          | true =>
            rw [if_pos rfl]
            dsimp only at hcl
            refine ⟨F4, Γ4, r4, ?_⟩
            cases hf : f Γ4 with
            | bad => rw [hf] at hcl; cases hcl
            | ex n l Γ5 => rw [hf] at hcl; cases hcl
            | ok y Γ5 =>
              rw [hf] at hcl
              dsimp only at hcl
              intro F5 H5 v r5 e5 rv
              split at hcl
              · rename_i hlen
                have hD5 : H5 D = some (.lst xs) := e5.hh D _ nD4 hD4 trivial
                have fD5 : F5 D = none := e5.fn D _ nD4 hD4 fD4 trivial
                have hacc5 := (hacc2.mono e4.ff).mono e5.ff
                exact ⟨xs, hD5, by rw [hacc5.length]; exact hlen, fin r5 (e4.trans e5) hD5 fD5 (hacc5.snoc rv) hcl⟩
              · cases hcl
    · rintro H' ⟨F', Γ', acc, ra, ea, ⟨xs, hD, hacc⟩, fD, osub, hcl⟩
      rw [List.drop_length] at hcl
      unfold compL at hcl
      cases hcl
      obtain ⟨y1, y2, y3⟩ := rel_unw r1 hv ra ea osub
      refine q1 F' H' (.ref D) y1 (e1.trans y2) ⟨D, rfl, fD, fun z => ?_, ⟨xs, hD, hacc⟩, e1.back (.inr nD)⟩
      obtain ⟨_, u, hu⟩ := r1.ownF (y3 D z)
      rw [nD] at hu; cases hu
section
variable {X : Cx} {c : Cf}
abbrev DTs (X : Cx) (c : Cf) (ifs : List Expr) (t : Ev → Rs Bool) : Prop := PTs X ifs (tR c vrT t)
def yesT : Ev → Rs Bool := fun Γ => .ok true Γ
theorem dts_nil : DTs X c [] yesT := ⟨fun pins s σ H Q I ⟨F, Γ, r, q⟩ => pts_nil.run pins s σ H Q I (q F H true r Ext.refl rfl)⟩
theorem do_lc {elt tg iter : Expr} {ifs : List Expr} {scope : Scope} {own : List (Str × Nat)} {pos : Pos} {src : Ev → Rs (List D × List Nat)} {g : TG} {gf : TgF} {ts : List Nat} {t : Ev → Rs Bool} {f : Ev → Rs D} (hc : X.calm = true) (hN : X.N.Nodup) (hi : DI2 X c tg iter src) (ok : BlkOk X.N X.env.scope scope own)
    (hg : ∀ (s : Shared) (H : Hp) (C : Addr) (cl : List (Str × Addr)) (fp : List Addr), PG (X.blk s H scope (compEnvC scope cl C X.env) fp) tg g) (gs : GSpec c g ts gf) (hts : ∀ i ∈ ts, i ∈ own.map (·.2)) (ht : ∀ (s : Shared) (H : Hp) (C : Addr) (cl : List (Str × Addr)) (fp : List Addr), DTs (X.blk s H scope (compEnvC scope cl C X.env) fp) c.calm ifs t)
    (he : ∀ (s : Shared) (H : Hp) (C : Addr) (cl : List (Str × Addr)) (fp : List Addr), DE (X.blk s H scope (compEnvC scope cl C X.env) fp) c.calm elt f) (hs : ∀ x, foldedSetIterable iter X.env x = pure x := by intro _; rfl) :
    DO X c (.ListComp elt [⟨tg, iter, ifs, 0⟩] scope pos) (compO (own.map (·.2)) src gf t f) := PE.of (pe_lc hc hN hi ok hg ht he hs) fun σ H Q q => rd_lc gs hts q
theorem ds_setLc {i : Nat} {y : Str} {py : Pos} {elt tg iter : Expr} {ifs : List Expr} {scope : Scope} {own : List (Str × Nat)} {pos spos : Pos} {src : Ev → Rs (List D × List Nat)} {g : TG} {gf : TgF} {ts : List Nat} {t : Ev → Rs Bool} {f : Ev → Rs D} (hc : X.calm = true) (hN : X.N.Nodup) (hy : X.N[i]? = some y) (hyl : X.env.scope.names.lookup y = some .local)
    (hsw : swapsWith (.ListComp elt [⟨tg, iter, ifs, 0⟩] scope pos) (some (.Name y py)) spos.line X.env = pure true) (hi : DI2 X c tg iter src) (ok : BlkOk X.N X.env.scope scope own)
    (hg : ∀ (s : Shared) (H : Hp) (C : Addr) (cl : List (Str × Addr)) (fp : List Addr), PG (X.blk s H scope (compEnvC scope cl C X.env) fp) tg g) (gs : GSpec c g ts gf) (hts : ∀ i ∈ ts, i ∈ own.map (·.2)) (ht : ∀ (s : Shared) (H : Hp) (C : Addr) (cl : List (Str × Addr)) (fp : List Addr), DTs (X.blk s H scope (compEnvC scope cl C X.env) fp) c.calm ifs t)
    (he : ∀ (s : Shared) (H : Hp) (C : Addr) (cl : List (Str × Addr)) (fp : List Addr), DE (X.blk s H scope (compEnvC scope cl C X.env) fp) c.calm elt f) (hs : ∀ x, foldedSetIterable iter X.env x = pure x := by intro _; rfl) :
    DS X c (.Assign [.Name y py] (.ListComp elt [⟨tg, iter, ifs, 0⟩] scope pos) spos) (setS i (compO (own.map (·.2)) src gf t f)) := PS.of (ps_setLc hc hN hy hyl hsw hi ok hg ht he hs) fun De σ H q => rd_lc gs hts (rd_set q)
end
end Nv
-- N14
namespace Nv
open PySem PySem.Spec PyProof.Rows L2
open Evl (Ex)
section
variable {X : Cx} {c : Cf} {e : Expr} {pos : Pos}
def mvE (i : Nat) : Ev → Rs AV := fun Γ => match Γ[i]? with
  | some (.dat d) => .ok (.dat d) Γ
  | some (.own none o) => .ok (.own o) (Γ.set i .un)
  | _ => .bad
theorem do_mv {i : Nat} (h : PE X e (tVar i)) : DO X c e (mvE i) := by
  refine PE.of h fun σ H Q ⟨F, Γ, r, q⟩ => ?_
  unfold mvE at q
  split at q
  · rename_i d hd
    obtain ⟨v, h1, h2⟩ := r.dat hd
    exact ⟨v, h1, q F H v r Ext.refl h2⟩
  · rename_i o ho
    obtain ⟨a, h1, h2, h3, h4, h5⟩ := r.own ho
    have no : ∀ t o', Slot.un ≠ Slot.own t o' := fun _ _ z => nomatch z
    have r2 := r.drop (i := i) (g := .un) (fun s _ => trivial) no
    have sub : ∀ b, own σ (Γ.set i .un) b → own σ Γ b := fun b z => own_drop no z
    refine ⟨.ref a, h1, q F H (.ref a) r2 ⟨Evl.Ex.refl _, fun _ _ _ h _ => h, fun _ _ _ _ h _ => h, fun b z => .inl (sub b z), Keep.refl⟩ ⟨a, rfl, h2, fun z => ?_, h3, .inl h5⟩⟩
    obtain ⟨j, t', o', z1, z2⟩ := z
    by_cases zi : i = j
    · subst zi
      rw [List.getElem?_set_self (List.getElem?_eq_some_iff.mp ho).1] at z1
      cases z1
    · rw [List.getElem?_set_ne zi] at z1
      exact zi (r.sep i j _ _ _ _ a ho z1 h1 z2)
  · exact q.elim
end
theorem rel_mut {M : Md} {σ0 σ : L2.St} {F H : Hp} {Γ : Ev} {i : Nat} {t : Option Nat} {o o' : O} {a : Addr} {u : HO} (r : Rel M σ0 F H σ Γ) (hg : Γ[i]? = some (.own t o)) (hs : σ[i]? = some (some (.ref a))) (hF : F a = none) (ho : ORep M F (upd H a u) a o') :
    Rel M σ0 F (upd H a u) σ (Γ.set i (.own t o')) ∧ Ext (own σ Γ) F H (own σ (Γ.set i (.own t o'))) F (upd H a u) := by
  have hi : i < Γ.length := (List.getElem?_eq_some_iff.mp hg).1
  have at_ : ∀ {j : Nat} {t' : Option Nat} {o1 : O}, (Γ.set i (.own t o'))[j]? = some (Slot.own t' o1) → ∃ o2, Γ[j]? = some (Slot.own t' o2) := fun {j t' o1} h => by
    by_cases z : i = j
    · subst z
      rw [List.getElem?_set_self hi] at h
      cases h
      exact ⟨o, hg⟩
    · rw [List.getElem?_set_ne z] at h
      exact ⟨o1, h⟩
  have osub : ∀ b, own σ (Γ.set i (.own t o')) b → own σ Γ b := fun b ⟨j, t', o1, h1, h2⟩ => by
    obtain ⟨o2, h3⟩ := at_ h1
    exact ⟨j, t', o2, h3, h2⟩
  have hX : ∀ u, H a = some u → NX u := fun u hu => r.ownNX ⟨i, t, o, hg, hs⟩ hu
  refine ⟨⟨fun b x e => ?_, by rw [List.length_set]; exact r.len, fun j s g h1 h2 => ?_, fun j k t1 o1 t2 o2 b h1 h2 h3 h4 => ?_, r.tab.upd hX⟩, ⟨Evl.Ex.refl _, fun b x n e nt => ?_, fun _ _ _ _ h _ => h, fun b z => .inl (osub b z), Keep.upd hX⟩⟩
  · rw [upd_ne fun z => by rw [z, hF] at e; cases e]
    exact r.sub b x e
  · by_cases z : i = j
    · subst z
      rw [List.getElem?_set_self hi] at h2
      cases h2
      rw [hs] at h1
      cases h1
      obtain ⟨b, x1, x2, x3, x4, x5⟩ := r.own hg
      rw [hs] at x1
      cases x1
      exact ⟨a, rfl, hF, ho, x4⟩
    · rw [List.getElem?_set_ne z] at h2
      have q := r.slot j s g h1 h2
      cases g with
      | un => trivial
      | dat d => exact q
      | own t1 o1 =>
        obtain ⟨b, x1, x2, x3, x4⟩ := q
        subst x1
        have nb : b ≠ a := fun e => by
          subst e
          exact z (r.sep i j _ _ _ _ b hg h2 hs h1)
        exact ⟨b, rfl, x2, x3.mono (Evl.Ex.refl _) (upd_ne nb), x4⟩
  · obtain ⟨_, g1⟩ := at_ h1
    obtain ⟨_, g2⟩ := at_ h2
    exact r.sep j k _ _ _ _ b g1 g2 h3 h4
  · rw [upd_ne fun z => by
      subst z
      exact n ⟨i, t, o, hg, hs⟩]
    exact e
section
variable {X : Cx} {c : Cf} {e ex : Expr} {es : List Expr} {pos cpos apos : Pos}
/-- what a method does to a list -/
def MutL (r : V → List V → Hp → VK → Prop) (g : List D → List D → Option (D × List D)) : Prop :=
  ∀ (M : Md) (F H : Hp) (a : Addr) (xs : List V) (l : List D) (vs : List V) (ds : List D) (d : D) (l' : List D) (Q : VK), H a = some (.lst xs) → Reps M F l xs → Reps M F ds vs → g l ds = some (d, l') →
    (∀ v xs', Rep M F d v → Reps M F l' xs' → Q v (upd H a (.lst xs'))) → r (.ref a) vs H Q
def mutR (i : Nat) (g : List D → List D → Option (D × List D)) (os : List OV) (Γ : Ev) : Rs AV := match Γ[i]?, dats os with
  | some (.own t (.lst l)), some ds => (match g l ds with
    | some (d, l') => .ok (.dat d) (Γ.set i (.own t (.lst l')))
    | none => .bad)
  | _, _ => .bad
def isLst (Γ : Ev) (i : Nat) : Bool := match Γ[i]? with
  | some (.own _ (.lst _)) => true
  | _ => false
def mutL (i : Nat) (g : List D → List D → Option (D × List D)) (f : Ev → Rs (List OV)) : Ev → Rs AV := fun Γ => if isLst Γ i = true then (f Γ).bind fun os Γ1 => mutR i g os Γ1 else .bad
theorem isLst_of {M : Md} {σ0 σ : L2.St} {F H : Hp} {Γ : Ev} {i : Nat} (r : Rel M σ0 F H σ Γ) (h : isLst Γ i = true) : ∃ a xs, σ[i]? = some (some (.ref a)) ∧ H a = some (.lst xs) := by
  unfold isLst at h
  split at h
  · rename_i t l hg
    obtain ⟨a, h1, _, ⟨xs, h2, _⟩, _⟩ := r.own hg
    exact ⟨a, xs, h1, h2⟩
  · cases h
theorem po_mut {r : V → List V → Hp → VK → Prop} {g : List D → List D → Option (D × List D)} (hm : MutL r g) {i : Nat} {σ : L2.St} {F H F1 H1 : Hp} {Γ Γ1 : Ev} {os : List OV} {vs : List V} {x : V} {Q : VK} (r1 : Rel c.M c.σ0 F1 H1 σ Γ1) (e1 : Ext (own σ Γ) F H (own σ Γ1) F1 H1)
    (hx : σ[i]? = some (some x)) (hv : ovsR c.M σ F1 vs os) (q : Po c (vrO c.M) σ F H Γ (mutR i g os Γ1) Q) : r x vs H1 Q := by
  unfold mutR at q
  split at q
  · rename_i t l ds hg hd
    split at q
    · rename_i d l' hgl
      obtain ⟨a, h1, h2, ⟨xs, h3, h4⟩, _⟩ := r1.own hg
      rw [hx] at h1
      cases h1
      refine hm c.M F1 H1 a xs l vs ds d l' Q h3 h4 (dats_reps hd hv) hgl fun v xs' k1 k2 => ?_
      obtain ⟨r2, e2⟩ := rel_mut (u := .lst xs') (o' := .lst l') r1 hg hx h2 ⟨xs', upd_same, k2⟩
      exact q F1 _ v r2 (e1.trans e2) (show Rep c.M F1 d v from k1)
    · exact q.elim
  · exact q.elim
theorem do_mut {i : Nat} {m : Str} {id : String} {r : V → List V → Hp → VK → Prop} {g : List D → List D → Option (D × List D)} {f : Ev → Rs (List OV)} (hm : MutL r g) (slot : PySem.Slot "list" m id) (hty : typeOf (.builtin id) = pure (.type "method_descriptor")) (hr : MtM X id r) (ho : PE X ex (tVar i)) (ha : DA X c (e :: es) f)
    (hbase : attributeBase ex m X.env (eval ex X.env) = eval ex X.env := by rfl)
    (hfew : ((backTo cpos (starEach (e :: es) X.env)).all (fun x => !x.1) && (backToKw cpos (keywordEach [] X.env)).all (fun x => x.1.isSome)
      && decide ((e :: es).length + ([] : List Keyword).length + (if ([] : List Keyword).isEmpty then 0 else 1) < 30)) = true := by rfl)
    (hline : (apos.endLine == cpos.line) = true := by rfl) (hs : starEach (e :: es) X.env = (false, eval e X.env) :: starEach es X.env := by rfl) (hplain : (backTo cpos (starEach es X.env)).any (·.1) = false := by rfl) :
    DO X c (.Call (.Attribute ex m apos) (e :: es) [] cpos) (mutL i g f) := by
  refine PE.of (pe_bm PySem.F.plainAttrs_list slot hty hr ho ha hbase hfew hline hs hplain) fun σ H Q ⟨F, Γ, r0, q⟩ => ?_
  unfold mutL at q
  split at q
  · rename_i hi
    obtain ⟨a, xs, h1, h2⟩ := isLst_of r0 hi
    refine ⟨.ref a, h1, .inl ⟨rfl, xs, SqL.of h2⟩, F, Γ, r0, ?_⟩
    refine (Po.bind (R := vrA c.M) q).imp fun vs H1 ⟨F1, Γ1, os, r1, e1, a1, q1⟩ => po_mut hm r1 e1 h1 a1 q1
  · exact q.elim
def gApp : List D → List D → Option (D × List D)
  | l, [d] => if l.length < sizeLine then some (.non, l ++ [d]) else none
  | _, _ => none
theorem mut_app : MutL rAppend gApp := fun M F H a xs l vs ds d l' Q h1 h2 h3 h4 k => by
  unfold gApp at h4
  split at h4
  · rename_i l d0
    split at h4
    · rename_i hl
      cases h4
      obtain ⟨v, r, rfl, k1, k2⟩ := reps_cons.mp h3
      cases reps_nil.mp k2
      exact ⟨a, xs, v, rfl, rfl, h1, by rw [h2.length]; exact hl, k .non _ (rep_non.mpr rfl) (h2.snoc k1)⟩
    · cases h4
  · cases h4
theorem do_app {i : Nat} {f : Ev → Rs (List OV)} (ho : PE X ex (tVar i)) (ha : DA X c [e] f) (hbase : attributeBase ex "append" X.env (eval ex X.env) = eval ex X.env := by rfl)
    (hfew : ((backTo cpos (starEach [e] X.env)).all (fun x => !x.1) && (backToKw cpos (keywordEach [] X.env)).all (fun x => x.1.isSome)
      && decide (([e] : List Expr).length + ([] : List Keyword).length + (if ([] : List Keyword).isEmpty then 0 else 1) < 30)) = true := by rfl)
    (hline : (apos.endLine == cpos.line) = true := by rfl) (hs : starEach [e] X.env = (false, eval e X.env) :: starEach [] X.env := by rfl) (hplain : (backTo cpos (starEach [] X.env)).any (·.1) = false := by rfl) :
    DO X c (.Call (.Attribute ex "append" apos) [e] [] cpos) (mutL i gApp f) := do_mut mut_app PySem.F.slot_list_append PySem.F.type_list_append mt_append ho ha hbase hfew hline hs hplain
theorem Reps.dropLast {M : Md} {F : Hp} {l : List D} {xs : List V} (h : Reps M F l xs) : Reps M F l.dropLast xs.dropLast := by
  rw [List.dropLast_eq_take, List.dropLast_eq_take, h.length]
  exact h.take _
theorem Reps.eraseIdx {M : Md} {F : Hp} : ∀ {l : List D} {xs : List V} (i : Nat), Reps M F l xs → Reps M F (l.eraseIdx i) (xs.eraseIdx i)
  | [], _, _, h => by cases reps_nil.mp h; exact Reps.nil
  | d :: l, _, 0, h => by obtain ⟨v, r, rfl, h1, h2⟩ := reps_cons.mp h; exact h2
  | d :: l, _, i + 1, h => by obtain ⟨v, r, rfl, h1, h2⟩ := reps_cons.mp h; exact Reps.cons h1 (Reps.eraseIdx i h2)
def gPop0 : List D → List D → Option (D × List D)
  | l, [] => match l[l.length - 1]? with
    | some d => some (d, l.dropLast)
    | none => none
  | _, _ => none
def gPop1 : List D → List D → Option (D × List D)
  | l, [.int i] => if -(2 ^ 63) ≤ i ∧ i < 2 ^ 63 then (match seqIndex? i l.length with
    | some k => (match l[k]? with
      | some d => some (d, l.eraseIdx k)
      | none => none)
    | none => none) else none
  | _, _ => none
def gPut : O → D → D → Option O
  | .dct l, k, d => match k.key with
    | some _ => if l.length < sizeLine then some (.dct (dput l k d)) else none
    | none => none
  | .dtt l, k, d => match k.keyT with
    | some _ => if l.length < sizeLine then some (.dtt (dput l k d)) else none
    | none => none
  | .lst l, .int i, d => (ixN l.length i).map fun j => .lst (l.set j d)
  | _, _, _ => none
/-- d[y] = v of dicts and lists -/
def UPut (H : Hp) (a : Addr) (y v : V) (H' : Hp) : Prop := DPut H a y v H' ∨ ∃ xs k j, H a = some (.lst xs) ∧ y = .int k ∧ ixN xs.length k = some j ∧ H' = upd H a (.lst (xs.set j v))
def sUPut (td ty tv : TE) : TS := fun De σ H => tv σ H fun v H1 => td σ H1 fun x H2 => ty σ H2 fun y H3 => ∃ a H4, x = .ref a ∧ UPut H3 a y v H4 ∧ De.nx σ H4
theorem ps_uput {o i value : Expr} {pos pos' : Pos} {td ty tv : TE} (hu : X.A.units + 1 < cLine) (ho : PE X o td) (hi : PE X i ty) (hv : PE X value tv) (hs : swapsWith value (some (.Subscript o i pos')) pos.line X.env = pure false) :
    PS X (.Assign [.Subscript o i pos'] value pos) (sUPut td ty tv) := by
  refine ⟨fun pins s σ H De I h => ?_⟩
  refine wpAny_Assign_Subscript (thn (hv.run pins s σ H _ I h) fun r s1 ⟨v, H1, I1, rv, q1⟩ => thn (ho.run pins s1 σ H1 _ I1 q1) fun u s2 ⟨x, H2, I2, rx, q2⟩ => thn (hi.run pins s2 σ H2 _ I2 q2) fun iv s3 ⟨y, H3, I3, ry, a, H4, ex, g, q3⟩ => ?_) hs
  subst ex
  rcases g with g | ⟨xs, k, j, g1, g2, g3, g4⟩
  · obtain rfl : u = Value.ref a := rx
    exact d_setItem hu I3 g ry rv fun s4 I4 => ⟨σ, H4, I4, q3⟩
  · subst g4
    exact thn (set_list pins s3 σ H3 (.ref a) y v u iv r (fun H' => De.nx σ H') I3 rx ry rv ⟨a, xs, k, j, rfl, g2, g1, g3, q3⟩) fun _ s4 ⟨H', I4, q4⟩ => ⟨σ, H', I4, q4⟩
theorem Reps.set {M : Md} {F : Hp} : ∀ {l : List D} {xs : List V} {j : Nat} {d : D} {v : V}, Reps M F l xs → Rep M F d v → Reps M F (l.set j d) (xs.set j v)
  | [], _, _, _, _, h, _ => by cases reps_nil.mp h; exact Reps.nil
  | x :: l, _, 0, _, _, h, hv => by
    obtain ⟨w, r, rfl, h1, h2⟩ := reps_cons.mp h
    exact Reps.cons hv h2
  | x :: l, _, j + 1, _, _, h, hv => by
    obtain ⟨w, r, rfl, h1, h2⟩ := reps_cons.mp h
    exact Reps.cons h1 (Reps.set h2 hv)
def isOwn (Γ : Ev) (i : Nat) : Bool := match Γ[i]? with
  | some (.own _ _) => true
  | _ => false
def putR (i : Nat) (ok : OV) (d : D) (Γ : Ev) : Option Ev := match Γ[i]?, ok.get Γ with
  | some (.own t o), some k => (match gPut o k d with
    | some o' => some (Γ.set i (.own t o'))
    | none => none)
  | _, _ => none
def putS (i : Nat) (fk : Ev → Rs OV) (fv : Ev → Rs D) : Ev → Out := fun Γ => (fv Γ).out fun d Γ1 => if isOwn Γ1 i = true then (fk Γ1).out fun ok Γ2 => optS (putR i ok d Γ2) else .bad
theorem RepK.len {M : Md} {F : Hp} : ∀ {l : List (D × D)} {xs : List (Key × V)}, RepK M F l xs → xs.length = l.length
  | [], _, h => by cases repK_nil.mp h; rfl
  | p :: l, _, h => by obtain ⟨q, v, r, rfl, _, _, h3⟩ := repK_cons.mp h; rw [List.length_cons, RepK.len h3, List.length_cons]
theorem RepT.len {M : Md} {F : Hp} : ∀ {l : List (D × D)} {xs : List (List Key × V)}, RepT M F l xs → xs.length = l.length
  | [], _, h => by cases repT_nil.mp h; rfl
  | p :: l, _, h => by obtain ⟨q, v, r, rfl, _, _, h3⟩ := repT_cons.mp h; rw [List.length_cons, RepT.len h3, List.length_cons]
theorem put_rel {M : Md} {σ0 σ : L2.St} {F H : Hp} {Γ Γ' : Ev} {i : Nat} {ok : OV} {d : D} {x y v : V} (r : Rel M σ0 F H σ Γ) (hx : σ[i]? = some (some x)) (hy : ovR M σ F y ok) (hv : Rep M F d v) (h : putR i ok d Γ = some Γ') :
    ∃ a H', x = .ref a ∧ UPut H a y v H' ∧ Rel M σ0 F H' σ Γ' ∧ Ext (own σ Γ) F H (own σ Γ') F H' := by
  unfold putR at h
  split at h
  · rename_i t o k hg hk
    split at h
    · rename_i o' hp
      cases h
      obtain ⟨a, h1, h2, h3, _⟩ := r.own hg
      rw [hx] at h1
      cases h1
      have rk := get_rep r hk hy
      unfold gPut at hp
      split at hp
      · rename_i l
        split at hp
        · rename_i k' hk'
          split at hp
          · rename_i hl
            cases hp
            obtain ⟨rfl, rfl, kok⟩ := key1 rk hk'
            obtain ⟨kvs, x1, x2⟩ := h3
            have q := rel_mut (u := .dK (putK kvs k' v)) (o' := .dct (dput l (kD k') d)) r hg hx h2 ⟨_, upd_same, x2.put k' kok hv⟩
            exact ⟨a, _, rfl, .inl (.inl ⟨kvs, k', x1, rfl, by rw [x2.len]; exact hl, rfl⟩), q.1, q.2⟩
          · cases hp
        · cases hp
      · rename_i l
        split at hp
        · rename_i k' hk'
          split at hp
          · rename_i hl
            cases hp
            obtain ⟨rfl, ⟨b, rfl, hb⟩, kok⟩ := keyT1 rk hk'
            obtain ⟨kvs, x1, x2⟩ := h3
            have q := rel_mut (u := .dT (putK kvs k' v)) (o' := .dtt (dput l (.tup (k'.map kD)) d)) r hg hx h2 ⟨_, upd_same, x2.put k' kok hv⟩
            exact ⟨a, _, rfl, .inl (.inr ⟨kvs, k', b, x1, rfl, r.sub _ _ hb, by rw [x2.len]; exact hl, rfl⟩), q.1, q.2⟩
          · cases hp
        · cases hp
      · rename_i l k2
        obtain ⟨j, hj, e⟩ := Option.map_eq_some_iff.mp hp
        cases e
        obtain ⟨xs, x1, x2⟩ := h3
        have rk2 : Rep M F (.int k2) y := rk
        cases rep_int.mp rk2
        have q := rel_mut (u := .lst (xs.set j v)) (o' := .lst (l.set j d)) r hg hx h2 ⟨_, upd_same, x2.set hv⟩
        exact ⟨a, _, rfl, .inr ⟨xs, k2, j, x1, rfl, by rw [x2.length]; exact hj, rfl⟩, q.1, q.2⟩
      · cases hp
    · cases h
  · cases h
theorem isOwn_of {M : Md} {σ0 σ : L2.St} {F H : Hp} {Γ : Ev} {i : Nat} (r : Rel M σ0 F H σ Γ) (h : isOwn Γ i = true) : ∃ a, σ[i]? = some (some (.ref a)) := by
  unfold isOwn at h
  split at h
  · rename_i t o hg
    obtain ⟨a, h1, _⟩ := r.own hg
    exact ⟨a, h1⟩
  · cases h
theorem ds_put {i : Nat} {o k v : Expr} {pos' : Pos} {fk : Ev → Rs OV} {fv : Ev → Rs D} (hu : X.A.units + 1 < cLine) (ho : PE X o (tVar i)) (hk : DB X c k fk) (hv : DE X c v fv) (hs : swapsWith v (some (.Subscript o k pos')) pos.line X.env = pure false := by rfl) :
    DS X c (.Assign [.Subscript o k pos'] v pos) (putS i fk fv) := by
  refine PS.of (ps_uput hu ho hk hv hs) fun De σ H ⟨F, Γ, r, q⟩ => ⟨F, Γ, r, ?_⟩
  refine (PoS.out (R := vrD c.M) q).imp fun w H1 ⟨F1, Γ1, d, r1, e1, a1, q1⟩ => ?_
  split at q1
  · rename_i hi
    obtain ⟨a, hx⟩ := isOwn_of r1 hi
    refine ⟨.ref a, hx, F1, Γ1, r1, ?_⟩
    refine (PoS.out (R := vrB c.M) (PoS.shift e1 q1)).imp fun y H2 ⟨F2, Γ2, ok, r2, e2, a2, q2⟩ => ?_
    cases hp : putR i ok d Γ2 with
    | none => rw [hp] at q2; exact q2.elim
    | some Γ3 =>
      rw [hp] at q2
      obtain ⟨a', H', x1, x2, x3, x4⟩ := put_rel r2 hx a2 (Rep.mono e2.ff a1) hp
      exact ⟨a', H', x1, x2, q2 σ F2 H' x3 (e2.trans x4)⟩
  · exact q1.elim
def putD (f : Str) (d : D) : List (Str × D) → List (Str × D)
  | [] => [(f, d)]
  | (g, x) :: r => if g = f then (g, d) :: r else (g, x) :: putD f d r
theorem RepF.put {M : Md} {F : Hp} {f : Str} {d : D} {v : V} (hv : Rep M F d v) : ∀ {l : List (Str × D)} {xs : List (Str × V)}, RepF M F l xs → RepF M F (putD f d l) (putF f v xs)
  | [], _, h => by
    cases repF_nil.mp h
    exact repF_cons.mpr ⟨v, [], rfl, hv, repF_nil.mpr rfl⟩
  | (g, x) :: l, _, h => by
    obtain ⟨w, r, rfl, h1, h2⟩ := repF_cons.mp h
    unfold putD putF
    dsimp only
    split
    · exact repF_cons.mpr ⟨v, r, rfl, hv, h2⟩
    · exact repF_cons.mpr ⟨w, _, rfl, h1, RepF.put hv h2⟩
theorem RepF.len {M : Md} {F : Hp} : ∀ {l : List (Str × D)} {xs : List (Str × V)}, RepF M F l xs → xs.length = l.length
  | [], _, h => by cases repF_nil.mp h; rfl
  | p :: l, _, h => by obtain ⟨v, r, rfl, _, h3⟩ := repF_cons.mp h; rw [List.length_cons, RepF.len h3, List.length_cons]
def fldR (i : Nat) (f : Str) (cs : List Str) (d : D) (Γ : Ev) : Option Ev := match Γ[i]? with
  | some (.own t (.ins n l)) => if n ∈ cs ∧ l.length < 1000 then some (Γ.set i (.own t (.ins n (putD f d l)))) else none
  | _ => none
def fldS (i : Nat) (f : Str) (cs : List Str) (fv : Ev → Rs D) : Ev → Out := fun Γ => (fv Γ).out fun d Γ1 => optS (fldR i f cs d Γ1)
theorem ds_fld {i : Nat} {o v : Expr} {f : Str} {cs : List Str} {pos' : Pos} {fv : Ev → Rs D} (hf : FldOk ⟨X.K, X.mg⟩ f cs) (hM : c.M = ⟨X.K, X.mg⟩) (ho : PE X o (tVar i)) (hv : DE X c v fv) (hs : swapsWith v (some (.Attribute o f pos')) pos.line X.env = pure false := by rfl) :
    DS X c (.Assign [.Attribute o f pos'] v pos) (fldS i f cs fv) := by
  refine PS.of (ps_fld ho hv hs) fun De σ H ⟨F, Γ, r, q⟩ => ⟨F, Γ, r, ?_⟩
  refine (PoS.out (R := vrD c.M) q).imp fun w H1 ⟨F1, Γ1, d, r1, e1, a1, q1⟩ => ?_
  cases hp : fldR i f cs d Γ1 with
  | none => rw [hp] at q1; exact q1.elim
  | some Γ3 =>
    rw [hp] at q1
    unfold fldR at hp
    split at hp
    · rename_i t n l hg
      split at hp
      · rename_i hn
        cases hp
        obtain ⟨a, h1, h2, ⟨C, dx, fs, h3, h4, h5⟩, _⟩ := r1.own hg
        have h3' := h3
        rw [hM] at h3'
        obtain ⟨k1, k2⟩ := hf n hn.1 C h3'
        obtain ⟨r2, e2⟩ := rel_mut (u := .ins C dx (putF f w fs)) (o' := .ins n (putD f d l)) r1 hg h1 h2 ⟨C, dx, _, h3, upd_same, h5.put a1⟩
        exact ⟨.ref a, h1, a, C, dx, fs, rfl, h4, k1, k2, by rw [h5.len]; exact hn.2, q1 σ F1 _ r2 (e1.trans e2)⟩
      · cases hp
    · cases hp
def par2 (i j : Nat) (f1 f2 : Ev → Rs AV) : Ev → Out := fun Γ => (f1 Γ).out fun a1 Γ1 => (f2 Γ1).out fun a2 Γ2 => optS ((setG Γ2 i a1).bind fun Γ3 => setG Γ3 j a2)
/-- a new own one stands while more is done -/
theorem AVR.keep {M : Md} {A0 A A' : Addr → Prop} {H0 F H F' H' : Hp} {v : V} {av : AV} (h : AVR M A0 H0 F H A v av) (e : Ext A F H A' F' H') : AVR M A0 H0 F' H' A' v av := by
  cases av with
  | dat d => exact Rep.mono e.ff h
  | own o =>
    obtain ⟨p, x0, x1, x2, x3, x4⟩ := h
    obtain ⟨u, hu⟩ := x3.some
    have n' : ¬ A' p := fun z => by
      rcases e.aa p z with z | z
      · exact x2 z
      · rw [hu] at z; cases z
    exact ⟨p, x0, e.fn p u x2 hu x1 (x3.nt hu), n', x3.mono e.ff (by rw [e.hh p u x2 hu (x3.ntb hu), hu]), x4⟩
/-- .. and the later one stands apart from it -/
theorem AVR.apart {M : Md} {A0 A1 A A' : Addr → Prop} {H0 F H F' H' : Hp} {v w : V} {o : O} {av : AV} (h : AVR M A0 H0 F H A v (.own o)) (e : Ext A F H A' F' H') (h2 : AVR M A H F' H' A' w av) : ∀ p, v = .ref p → ∀ o', av = .own o' → w ≠ .ref p := fun p ev o' ea ew => by
  subst ea
  obtain ⟨p1, x0, x1, x2, x3, x4⟩ := h
  obtain ⟨q, y0, y1, y2, y3, y4⟩ := h2
  rw [x0] at ev
  cases ev
  rw [y0] at ew
  cases ew
  obtain ⟨u, hu⟩ := x3.some
  rcases y4 with y4 | y4
  · exact x2 y4
  · rw [hu] at y4; cases y4
/-- set twice: the second new one is not the first -/
theorem set_keep {M : Md} {σ0 σ : L2.St} {F H : Hp} {Γ Γ' : Ev} {i : Nat} {a1 a2 : AV} {v w : V} {A0 A1 : Addr → Prop} {H0 H1 : Hp} (r : Rel M σ0 F H σ Γ) (h : setG Γ i a1 = some Γ') (x1 : AVR M A0 H0 F H (own σ Γ) v a1) (x2 : AVR M A1 H1 F H (own σ Γ) w a2)
    (ap : ∀ o, a1 = .own o → ∀ p, v = .ref p → ∀ o', a2 = .own o' → w ≠ .ref p) : AVR M A1 H1 F H (own (σ.set i (some v)) Γ') w a2 := by
  cases a2 with
  | dat d => exact x2
  | own o' =>
    obtain ⟨p, y0, y1, y2, y3, y4⟩ := x2
    refine ⟨p, y0, y1, fun z => ?_, y3, y4⟩
    unfold setG at h
    split at h
    · rename_i hok
      cases h
      obtain ⟨j, t, o2, z1, z2⟩ := z
      have hi : i < Γ.length := by
        unfold setOk at hok
        cases q : Γ[i]? with
        | none => rw [q] at hok; cases hok
        | some g => exact (List.getElem?_eq_some_iff.mp q).1
      have hi2 : i < σ.length := by rw [r.len]; exact hi
      by_cases zi : i = j
      · subst zi
        rw [List.getElem?_set_self hi] at z1
        rw [List.getElem?_set_self hi2] at z2
        cases a1 with
        | dat d => cases z1
        | own o1 =>
          cases z2
          exact ap o1 rfl p rfl o' rfl y0
      · rw [List.getElem?_set_ne zi] at z1 z2
        exact y2 ⟨j, t, o2, z1, z2⟩
    · cases h
theorem PoS.out2 {α β : Type} {R : VRel α β} {σ : L2.St} {F H F1 H1 : Hp} {Γ Γ1 : Ev} {De : Ends} {r : Rs α} {k : α → Ev → Out} (h : PoS c σ F H Γ (r.out k) De) (e1 : Ext (own σ Γ) F H (own σ Γ1) F1 H1) :
    Po c R σ F1 H1 Γ1 r (fun v H' => ∃ F' Γ' a, Rel c.M c.σ0 F' H' σ Γ' ∧ Ext (own σ Γ1) F1 H1 (own σ Γ') F' H' ∧ R σ F1 H1 Γ1 F' H' Γ' v a ∧ PoS c σ F H Γ (k a Γ') De) := by
  cases r with
  | ok a Γ' => exact fun F' H' v r1 e1 v1 => ⟨F', Γ', a, r1, e1, v1, h⟩
  | ex n l Γ' => exact fun F' H' C dx r2 e2 m x => h σ F' H' C dx r2 (e1.trans e2) m x
  | bad => exact h
theorem ds_par {i j : Nat} {x y : Str} {a b : Expr} {px py pt : Pos} {kt k2 : Nat} {pt2 : Pos} {f1 f2 : Ev → Rs AV} (hc : X.calm = true) (hN : X.N.Nodup) (ha : DO X c a f1) (hb : DO X c b f2)
    (hi : X.N[i]? = some x := by rfl) (hj : X.N[j]? = some y := by rfl) (hij : i ≠ j := by decide) (hx : X.env.scope.names.lookup x = some .local := by rfl) (hy : X.env.scope.names.lookup y = some .local := by rfl)
    (hw : swappedStores [.Tuple [.Name x px, .Name y py] kt pt] (.Tuple [a, b] k2 pt2) X.env = pure (some [x, y]) := by rfl)
    (hs : swapsWithSole [.Tuple [.Name x px, .Name y py] kt pt] (.Tuple [a, b] k2 pt2) pos.line X.env = pure false := by rfl)
    (st : starEach [a, b] X.env = (false, eval a X.env) :: starEach [b] X.env := by rfl) (st2 : starEach [b] X.env = (false, eval b X.env) :: starEach [] X.env := by rfl) :
    DS X c (.Assign [.Tuple [.Name x px, .Name y py] kt pt] (.Tuple [a, b] k2 pt2) pos) (par2 i j f1 f2) := by
  refine PS.of (ps_par hc hN hi hj hij hx hy (pa_cons ha (pa_cons hb pa_nil st2) st) hw hs) fun De σ H ⟨F, Γ, r, q⟩ => ⟨F, Γ, r, ?_⟩
  refine (PoS.out (R := vrO c.M) q).imp fun v H1 ⟨F1, Γ1, a1, r1, e1, x1, q1⟩ => ⟨F1, Γ1, r1, ?_⟩
  refine (PoS.out2 (R := vrO c.M) q1 e1).imp fun w H2 ⟨F2, Γ2, a2, r2, e2, x2, q2⟩ => ?_
  refine ⟨v, w, rfl, ?_⟩
  have x1' : AVR c.M (own σ Γ) H F2 H2 (own σ Γ2) v a1 := AVR.keep x1 e2
  have ap : ∀ o, a1 = .own o → ∀ p, v = .ref p → ∀ o', a2 = .own o' → w ≠ .ref p := fun o eo => by
    subst eo
    exact AVR.apart (A1 := own σ Γ1) x1 e2 x2
  cases h1 : setG Γ2 i a1 with
  | none => rw [h1] at q2; exact q2.elim
  | some Γ3 =>
    rw [h1] at q2
    obtain ⟨r3, o3⟩ := set_rel r2 h1 x1'
    have q3 : PoS c σ F H Γ (optS (setG Γ3 j a2)) De := q2
    cases h2 : setG Γ3 j a2 with
    | none =>
      rw [h2] at q3
      exact q3.elim
    | some Γ4 =>
      rw [h2] at q3
      obtain ⟨r4, o4⟩ := set_rel r3 h2 (set_keep r2 h1 x1' x2 ap)
      refine q3 _ F2 H2 r4 ((e1.trans e2).own fun b hb => ?_)
      rcases o4 b hb with z | z
      · rcases o3 b z with z | z | z
        · exact .inl z
        · exact .inr (.inl z)
        · exact .inr (.inr z)
      · exact .inr (e1.back z)
def par3 (i j l : Nat) (f1 f2 f3 : Ev → Rs AV) : Ev → Out := fun Γ => (f1 Γ).out fun a1 Γ1 => (f2 Γ1).out fun a2 Γ2 => (f3 Γ2).out fun a3 Γ3 => optS ((setG Γ3 i a1).bind fun Γ4 => (setG Γ4 j a2).bind fun Γ5 => setG Γ5 l a3)
theorem ds_par3 {i j l : Nat} {x y z : Str} {a b d : Expr} {px py pz pt : Pos} {kt k2 : Nat} {pt2 : Pos} {f1 f2 f3 : Ev → Rs AV} (hc : X.calm = true) (hN : X.N.Nodup) (ha : DO X c a f1) (hb : DO X c b f2) (hd : DO X c d f3)
    (hi : X.N[i]? = some x := by rfl) (hj : X.N[j]? = some y := by rfl) (hl : X.N[l]? = some z := by rfl) (hij : i ≠ j := by decide) (hil : i ≠ l := by decide) (hjl : j ≠ l := by decide) (hx : X.env.scope.names.lookup x = some .local := by rfl) (hy : X.env.scope.names.lookup y = some .local := by rfl) (hz : X.env.scope.names.lookup z = some .local := by rfl)
    (hw : swappedStores [.Tuple [.Name x px, .Name y py, .Name z pz] kt pt] (.Tuple [a, b, d] k2 pt2) X.env = pure (some [x, y, z]) := by rfl)
    (hs : swapsWithSole [.Tuple [.Name x px, .Name y py, .Name z pz] kt pt] (.Tuple [a, b, d] k2 pt2) pos.line X.env = pure false := by rfl)
    (st : starEach [a, b, d] X.env = (false, eval a X.env) :: starEach [b, d] X.env := by rfl) (st2 : starEach [b, d] X.env = (false, eval b X.env) :: starEach [d] X.env := by rfl) (st3 : starEach [d] X.env = (false, eval d X.env) :: starEach [] X.env := by rfl) :
    DS X c (.Assign [.Tuple [.Name x px, .Name y py, .Name z pz] kt pt] (.Tuple [a, b, d] k2 pt2) pos) (par3 i j l f1 f2 f3) := by
  refine PS.of (ps_par3 hc hN hi hj hl hij hil hjl hx hy hz (pa_cons ha (pa_cons hb (pa_cons hd pa_nil st3) st2) st) hw hs) fun De σ H ⟨F, Γ, r, q⟩ => ⟨F, Γ, r, ?_⟩
  refine (PoS.out (R := vrO c.M) q).imp fun v H1 ⟨F1, Γ1, a1, r1, e1, x1, q1⟩ => ⟨F1, Γ1, r1, ?_⟩
  refine (PoS.out2 (R := vrO c.M) q1 e1).imp fun w H2 ⟨F2, Γ2, a2, r2, e2, x2, q2⟩ => ⟨F2, Γ2, r2, ?_⟩
  refine (PoS.out2 (R := vrO c.M) q2 (e1.trans e2)).imp fun u H3 ⟨F3, Γ3, a3, r3, e3, x3, q3⟩ => ?_
  refine ⟨v, w, u, rfl, ?_⟩
  have x1' : AVR c.M (own σ Γ) H F2 H2 (own σ Γ2) v a1 := AVR.keep x1 e2
  have x1'' : AVR c.M (own σ Γ) H F3 H3 (own σ Γ3) v a1 := AVR.keep x1' e3
  have x2' : AVR c.M (own σ Γ1) H1 F3 H3 (own σ Γ3) w a2 := AVR.keep x2 e3
  have ap12 : ∀ o, a1 = .own o → ∀ p, v = .ref p → ∀ o', a2 = .own o' → w ≠ .ref p := fun o eo => by
    subst eo
    exact AVR.apart (A1 := own σ Γ1) x1 e2 x2
  have ap13 : ∀ o, a1 = .own o → ∀ p, v = .ref p → ∀ o', a3 = .own o' → u ≠ .ref p := fun o eo => by
    subst eo
    exact AVR.apart (A1 := own σ Γ1) x1' e3 x3
  have ap23 : ∀ o, a2 = .own o → ∀ p, w = .ref p → ∀ o', a3 = .own o' → u ≠ .ref p := fun o eo => by
    subst eo
    exact AVR.apart (A1 := own σ Γ1) x2 e3 x3
  cases h1 : setG Γ3 i a1 with
  | none => rw [h1] at q3; exact q3.elim
  | some Γ4 =>
    rw [h1] at q3
    obtain ⟨r4, o4⟩ := set_rel r3 h1 x1''
    have y2 := set_keep r3 h1 x1'' x2' ap12
    have y3 := set_keep r3 h1 x1'' x3 ap13
    have q4 : PoS c σ F H Γ (optS ((setG Γ4 j a2).bind fun Γ5 => setG Γ5 l a3)) De := q3
    cases h2 : setG Γ4 j a2 with
    | none =>
      rw [h2] at q4
      exact q4.elim
    | some Γ5 =>
      rw [h2] at q4
      obtain ⟨r5, o5⟩ := set_rel r4 h2 y2
      have z3 := set_keep r4 h2 y2 y3 ap23
      have q5 : PoS c σ F H Γ (optS (setG Γ5 l a3)) De := q4
      cases h3 : setG Γ5 l a3 with
      | none =>
        rw [h3] at q5
        exact q5.elim
      | some Γ6 =>
        rw [h3] at q5
        obtain ⟨r6, o6⟩ := set_rel r5 h3 z3
        refine q5 _ F3 H3 r6 (((e1.trans e2).trans e3).own fun b hb => ?_)
        rcases o6 b hb with z | z
        · rcases o5 b z with z | z
          · rcases o4 b z with z | z
            · exact .inl z
            · exact .inr z
          · exact .inr (e1.back z)
        · exact .inr ((e1.trans e2).back z)
end
end Nv
-- N15
namespace L2
open PySem PySem.Spec PyProof.Rows
end L2
namespace Nv
open PySem PySem.Spec PyProof.Rows L2
open Evl (Ex)
section
variable {X : Cx} {c : Cf} {e : Expr} {pos : Pos}
def newE (o : O) : Ev → Rs AV := fun Γ => .ok (.own o) Γ
/-- a fresh object that is no slot's stands through what is done -/
theorem Ext.stay {A A' : Addr → Prop} {F H F' H' : Hp} {p : Addr} {u : HO} (e : Ext A F H A' F' H') (n : ¬ A p) (h : H p = some u) (nt : NTb u := by trivial) : H' p = some u ∧ ¬ A' p := ⟨e.hh p u n h nt, fun z => by
  rcases e.aa p z with z | z
  · exact n z
  · rw [h] at z; cases z⟩
theorem Ext.put {A A' : Addr → Prop} {F H F' H' : Hp} {p : Addr} {u : HO} (e : Ext A F H A' F' H') (n : H p = none) (hx : ∀ w, H' p = some w → NX w) : Ext A F H A' F' (upd H' p u) := ⟨e.ff, fun b o na hb nt => by rw [upd_ne (ne_of_none hb n)]; exact e.hh b o na hb nt, e.fn, e.aa, e.k.trans (Keep.upd hx)⟩
theorem Rel.put {M : Md} {σ0 σ : L2.St} {F H : Hp} {Γ : Ev} {p : Addr} {u : HO} (r : Rel M σ0 F H σ Γ) (nF : F p = none) (no : ¬ Nv.own σ Γ p) (hx : ∀ w, H p = some w → NX w) : Rel M σ0 F (upd H p u) σ Γ :=
  r.grow (Evl.Ex.refl _) (fun b x hb => by rw [upd_ne fun e => by rw [e, nF] at hb; cases hb]; exact r.sub b x hb) (fun b z => ⟨upd_ne fun e => no (e ▸ z), (r.ownF z).1⟩) (r.tab.upd hx)
theorem Po.bind2 {α β γ δ : Type} {R : VRel α β} {S : VRel γ δ} {σ : L2.St} {F H F1 H1 : Hp} {Γ Γ1 : Ev} {Q : δ → Hp → Prop} {r : Rs α} {k : α → Ev → Rs γ} (h : Po c S σ F H Γ (r.bind k) Q) (e1 : Ext (own σ Γ) F H (own σ Γ1) F1 H1) :
    Po c R σ F1 H1 Γ1 r (fun v H' => ∃ F' Γ' a, Rel c.M c.σ0 F' H' σ Γ' ∧ Ext (own σ Γ1) F1 H1 (own σ Γ') F' H' ∧ R σ F1 H1 Γ1 F' H' Γ' v a ∧ Po c S σ F H Γ (k a Γ') Q) := by
  cases r with
  | ok a Γ' => exact fun F' H' v r1 e1 v1 => ⟨F', Γ', a, r1, e1, v1, h⟩
  | ex n l Γ' => exact fun F' H' C dx r2 e2 m x => h F' H' C dx r2 (e1.trans e2) m x
  | bad => exact h
def dispTO (fk : Ev → Rs OV) (fv : Ev → Rs D) : Ev → Rs AV := fun Γ => (fk Γ).bind fun ok Γ1 => (fv Γ1).bind fun d Γ2 => match ok.get Γ2 with
  | some k => (match k.keyT with
    | some _ => .ok (.own (.dtt [(k, d)])) Γ2
    | none => .bad)
  | none => .bad
def pairsR (M : Md) (F : Hp) : List (V × V) → List (D × D) → Prop
  | [], [] => True
  | p :: ps, d :: ds => Rep M F d.1 p.1 ∧ Rep M F d.2 p.2 ∧ pairsR M F ps ds
  | _, _ => False
theorem pairsR.mono {M : Md} {F F' : Hp} (e : Ex F F') : ∀ {ps : List (V × V)} {ds : List (D × D)}, pairsR M F ps ds → pairsR M F' ps ds
  | [], [], _ => trivial
  | _ :: _, _ :: _, h => ⟨Rep.mono e h.1, Rep.mono e h.2.1, pairsR.mono e h.2.2⟩
  | [], _ :: _, h => h.elim
  | _ :: _, [], h => h.elim
def vrPs (M : Md) : VRel (List (D × D)) (List (V × V)) := fun _ _ _ _ F' _ _ ps ds => pairsR M F' ps ds
theorem sh_Ps {M : Md} : Shifts (vrPs M) := fun _ _ _ _ _ _ _ _ _ _ _ _ _ h => h
def prNil : Ev → Rs (List (D × D)) := fun Γ => .ok [] Γ
def prCons (fk fv : Ev → Rs D) (f : Ev → Rs (List (D × D))) : Ev → Rs (List (D × D)) := fun Γ => (fk Γ).bind fun k Γ => (fv Γ).bind fun v Γ => (f Γ).bind fun r Γ => .ok ((k, v) :: r) Γ
structure DPs (X : Cx) (c : Cf) (pos : Pos) (keys : List (Option Expr)) (values : List Expr) (f : Ev → Rs (List (D × D))) : Prop where
  ex : ∃ trs, PPs X pos keys values trs ∧ ∀ σ H Q, tR c (vrPs c.M) f σ H Q → tPairs trs σ H Q
theorem dps_nil : DPs X c pos [] [] prNil := ⟨[], pps_nil, fun σ H Q ⟨F, Γ, r, q⟩ => q F H [] r Ext.refl trivial⟩
theorem dps_cons {k v : Expr} {ks : List (Option Expr)} {vs : List Expr} {fk fv : Ev → Rs D} {f : Ev → Rs (List (D × D))} (hk : DE X c k fk) (hv : DE X c v fv) (h : DPs X c pos ks vs f) : DPs X c pos (some k :: ks) (v :: vs) (prCons fk fv f) := by
  obtain ⟨trs, h1, h2⟩ := h.ex
  refine ⟨_, pps_cons hk hv h1, fun σ H Q ⟨F, Γ, r, q⟩ => ⟨F, Γ, r, ?_⟩⟩
  refine (Po.bind (R := vrD c.M) q).imp fun x H1 ⟨F1, Γ1, dk, r1, e1, a1, q1⟩ => ⟨F1, Γ1, r1, ?_⟩
  refine (Po.bind (R := vrD c.M) (Po.shift sh_Ps e1 q1)).imp fun y H2 ⟨F2, Γ2, dv, r2, e2, a2, q2⟩ => h2 σ H2 _ ⟨F2, Γ2, r2, ?_⟩
  refine (Po.bind (R := vrPs c.M) (Po.shift sh_Ps e2 q2)).imp fun ps H3 ⟨F3, Γ3, ds, r3, e3, a3, q3⟩ => ?_
  exact q3 F3 H3 _ r3 e3 ⟨(Rep.mono e2.ff a1).mono e3.ff, Rep.mono e3.ff a2, a3⟩
def keysOk : List (D × D) → Bool
  | [] => true
  | p :: r => p.1.key.isSome && keysOk r
def merD (l : List (D × D)) : List (D × D) → List (D × D)
  | [] => l
  | p :: r => merD (dput l p.1 p.2) r
def dispO (f : Ev → Rs (List (D × D))) : Ev → Rs AV := fun Γ => (f Γ).bind fun ds Γ1 => if keysOk ds = true ∧ ds.length ≤ 15 then .ok (.own (.dct (merD [] ds))) Γ1 else .bad
theorem pairs_keys {M : Md} {F : Hp} : ∀ {ps : List (V × V)} {ds : List (D × D)}, pairsR M F ps ds → keysOk ds = true → ∃ kvs : List (Key × V), ps = kvs.map (fun kv => (kV kv.1, kv.2)) ∧ kvs.length = ds.length ∧ ∀ {l : List (D × D)} {xs : List (Key × V)}, RepK M F l xs → RepK M F (merD l ds) (mergeK xs kvs)
  | [], [], _, _ => ⟨[], rfl, rfl, fun h => h⟩
  | p :: ps, d :: ds, h, hk => by
    unfold keysOk at hk
    obtain ⟨k1, k2⟩ := (Bool.and_eq_true _ _ ▸ hk : _ ∧ _)
    obtain ⟨kvs, e1, e2, e3⟩ := pairs_keys h.2.2 k2
    obtain ⟨k, hk'⟩ := Option.isSome_iff_exists.mp k1
    obtain ⟨x, y⟩ := p
    obtain ⟨dk, dv⟩ := d
    have z := key_kD hk'
    dsimp only at z
    subst z
    obtain ⟨h1, h2, _⟩ := h
    obtain ⟨ex, kok⟩ := kv_rep h1
    dsimp only at ex
    subst ex
    exact ⟨(k, y) :: kvs, by rw [e1]; rfl, by rw [List.length_cons, e2, List.length_cons], fun hl => e3 (hl.put k kok h2)⟩
  | [], _ :: _, h, _ => h.elim
  | _ :: _, [], h, _ => h.elim
theorem do_disp {keys : List (Option Expr)} {values : List Expr} {f : Ev → Rs (List (D × D))} (h : DPs X c pos keys values f) (hall : keys.all (·.isSome) = true := by rfl) (hl : keys.length = values.length := by rfl) (h0 : keys ≠ [] := by exact (fun z => nomatch z))
    (h15 : keys.length ≤ 15 := by exact Nat.le_of_ble_eq_true rfl) : DO X c (.Dict keys values pos) (dispO f) := by
  obtain ⟨trs, h1, h2⟩ := h.ex
  refine PE.of (pe_disp h1 hall hl h0 h15) fun σ H Q ⟨F, Γ, r, q⟩ p n => h2 σ _ _ ⟨F, Γ, r.new n, ?_⟩
  have nF : F p = none := r.fr n
  have nO : ¬ own σ Γ p := fun z => by
    obtain ⟨_, w, hw⟩ := r.ownF z
    rw [n] at hw; cases hw
  have e0 : Ext (own σ Γ) F H (own σ Γ) F (upd H p (.dK [])) := Ext.new n
  refine (Po.bind2 (R := vrPs c.M) q e0).imp fun ps H1 ⟨F1, Γ1, ds, r1, e1, a1, q1⟩ => ?_
  obtain ⟨p1, n1⟩ := e1.stay nO upd_same
  have f1 : F1 p = none := e1.fn p _ nO upd_same nF trivial
  split at q1
  · rename_i hk
    obtain ⟨kvs, k1, k2, k3⟩ := pairs_keys a1 hk.1
    exact ⟨p1, kvs, k1, by rw [k2]; exact hk.2, q1 F1 _ _ (r1.put f1 n1 (fun w hw => by rw [p1] at hw; cases hw; trivial)) ((e0.trans e1).put n (fun w hw => by rw [p1] at hw; cases hw; trivial)) ⟨p, rfl, f1, n1, ⟨_, upd_same, k3 (repK_nil.mpr rfl)⟩, .inr n⟩⟩
  · exact q1.elim
def isDct : D → Bool
  | .dct _ => true
  | .dtt _ => true
  | _ => false
def getR (f : Option D → D) (o ok : OV) (Γ : Ev) : Rs AV := match o.get Γ, ok.get Γ with
  | some d, some k => (match gGet d k with
    | some r => .ok (.dat (f r)) Γ
    | none => .bad)
  | _, _ => .bad
def get1O (fo fk : Ev → Rs OV) : Ev → Rs AV := fun Γ => (fo Γ).bind fun o Γ1 => if (match o.get Γ1 with | some d => isDct d | none => false) = true then (fk Γ1).bind fun ok Γ2 => getR (fun r => r.getD .non) o ok Γ2 else .bad
def get2O (fo fk : Ev → Rs OV) (fx : Ev → Rs D) : Ev → Rs AV := fun Γ => (fo Γ).bind fun o Γ1 => if (match o.get Γ1 with | some d => isDct d | none => false) = true then (fk Γ1).bind fun ok Γ2 => (fx Γ2).bind fun x Γ3 => getR (fun r => r.getD x) o ok Γ3 else .bad
theorem RO.getD {M : Md} {F : Hp} {o : Option D} {v : Option V} {d : D} {w : V} (h : RO M F o v) (hd : Rep M F d w) : Rep M F (o.getD d) (v.getD w) := by
  cases o with
  | none =>
    cases v with
    | none => exact hd
    | some v => exact h.elim
  | some o =>
    cases v with
    | none => exact h.elim
    | some v => exact h
end
end Nv
-- N16
namespace Nv
open PySem PySem.Spec PyProof.Rows L2
open Evl (Ex)
section
variable {X : Cx} {c : Cf} {a b d e : Expr} {es : List Expr} {pos p : Pos} {x : Str}
def frzE (f : Ev → Rs AV) : Ev → Rs D := fun Γ => AV.frz (f Γ)
theorem de_o {f : Ev → Rs AV} (h : DO X c e f) : DE X c e (frzE f) := de_frz h
def tstE (f : Ev → Rs AV) : Ev → Rs Bool := fun Γ => tst (f Γ)
theorem dt_o {f : Ev → Rs AV} (h : DO X c e f) (he : ∀ whole, isTrue e X.env whole = (do let v ← whole; standAt e.pos; holding [v] (truthy v)) := by intro _; rfl) : DT X c e (tstE f) := dt_val h he
theorem de_g {i : Int} (h : ∃ u, X.mg x = some u ∧ RelV (.int i) u) (hg : Gl X x := by rfl) (hd : (x == ("__debug__" : Str)) = false := by decide) : DE X c (.Name x pos) (cst (.int i)) := by
  obtain ⟨u, h1, h2⟩ := h
  exact de_gint h1 h2 hg hd
/-- comparisons -/
structure Cm (X : Cx) (c : Cf) (op : CmpOp) (g : D → D → Option AV) : Prop where
  ex : ∃ r, OpR X (compareOp op) r ∧ O2 c.M r g
theorem cm_Eq (hu : X.A.units + 65 < cLine) (hM : c.M = ⟨X.K, X.mg⟩) : Cm X c .Eq gEq := ⟨_, op_eqD (by omega), by rw [hM]; exact o2_eq⟩
theorem cm_Ne (hu : X.A.units + 65 < cLine) (hM : c.M = ⟨X.K, X.mg⟩) : Cm X c .NotEq gNe := ⟨_, op_neD (by omega), by rw [hM]; exact o2_ne⟩
theorem cm_Lt : Cm X c .Lt gLt := ⟨_, op_lt, o2_lt⟩
theorem cm_Le : Cm X c .LtE gLe := ⟨_, op_le, o2_le⟩
theorem cm_Gt : Cm X c .Gt gGt := ⟨_, op_gt, o2_gt⟩
theorem cm_Ge : Cm X c .GtE gGe := ⟨_, op_ge, o2_ge⟩
theorem cm_In (hu : X.A.units + 65 < cLine) (hM : c.M = ⟨X.K, X.mg⟩) : Cm X c .In gIn := ⟨_, op_inA hu, by rw [hM]; exact o2_in⟩
theorem cm_Nin (hu : X.A.units + 65 < cLine) (hM : c.M = ⟨X.K, X.mg⟩) : Cm X c .NotIn gNin := ⟨_, op_ninA hu, by rw [hM]; exact o2_nin⟩
theorem cm_Is : Cm X c .Is gIs := ⟨_, op_isN, o2_is⟩
theorem cm_Isn : Cm X c .IsNot gIsn := ⟨_, op_notN, o2_isn⟩
section
variable {op op' : CmpOp} {g g' : D → D → Option AV} {fa fb fc : Ev → Rs OV}
theorem do_cm (h : Cm X c op g) (ha : DB X c a fa) (hb : DB X c b fb) (hm : behindInMarks op b = false := by first | exact nomark _ | with_unfolding_all rfl) : DO X c (.Compare a [op] [b] pos) (op2 g fa fb) := by
  obtain ⟨r, h1, h2⟩ := h.ex
  exact do_cmp h1 h2 ha hb hm
theorem dt_cm (h : Cm X c op g) (ha : DB X c a fa) (hb : DB X c b fb) (hm : behindInMarks op b = false := by first | exact nomark _ | with_unfolding_all rfl) : DT X c (.Compare a [op] [b] pos) (tstE (op2 g fa fb)) := by
  obtain ⟨r, h1, h2⟩ := h.ex
  exact dt_cmp h1 h2 ha hb hm
theorem dt_ch (h : Cm X c op g) (h' : Cm X c op' g') (ha : DB X c a fa) (hb : DB X c b fb) (hd : DB X c d fc) (hm : lastMarks [op, op'] [b, d] = false := by with_unfolding_all rfl) : DT X c (.Compare a [op, op'] [b, d] pos) (tstE (chainO g g' fa fb fc)) := by
  obtain ⟨r, h1, h2⟩ := h.ex
  obtain ⟨r', h3, h4⟩ := h'.ex
  exact dt_chain h1 h2 h3 h4 ha hb hd hm
/-- operators -/
theorem do_Add (hM : c.M = ⟨X.K, X.mg⟩) (ha : DB X c a fa) (hb : DB X c b fb) : DO X c (.BinOp a .Add b pos) (op2 gAdd fa fb) := do_op op_addA (by rw [hM]; exact o2_add) ha hb
theorem do_Sub (ha : DB X c a fa) (hb : DB X c b fb) : DO X c (.BinOp a .Sub b pos) (op2 gSub fa fb) := do_op op_sub o2_sub ha hb
theorem do_Mult (ha : DB X c a fa) (hb : DB X c b fb) : DO X c (.BinOp a .Mult b pos) (op2 gMul fa fb) := do_op op_mulA o2_mul ha hb
theorem do_Mod (ha : DB X c a fa) (hb : DB X c b fb) : DO X c (.BinOp a .Mod b pos) (op2 gMod fa fb) := do_op op_mod o2_mod ha hb
theorem do_FloorDiv (ha : DB X c a fa) (hb : DB X c b fb) : DO X c (.BinOp a .FloorDiv b pos) (op2 gFdv fa fb) := do_op op_fdivW o2_fdv ha hb
theorem do_Pow (ha : DB X c a fa) (hb : DB X c b fb) : DO X c (.BinOp a .Pow b pos) (op2 gPow fa fb) := do_op op_pow o2_pow ha hb
theorem do_Ix (hu : X.A.units + 65 < cLine) (hM : c.M = ⟨X.K, X.mg⟩) (ha : DB X c a fa) (hb : DB X c b fb) (hs : PlainIx b := by intro _ _; rfl) : DO X c (.Subscript a b pos) (op2 gIx fa fb) := do_ix (ix_A hu) (by rw [hM]; exact o2_ix) ha hb hs
end
section
variable {f : Ev → Rs (List OV)}
theorem do_len (hM : c.M = ⟨X.K, X.mg⟩) (hm : X.mg "len" = none) (ha : DA X c (e :: es) f) (hg : Gl X "len" := by rfl) (he : starEach (e :: es) X.env = (false, eval e X.env) :: starEach es X.env := by rfl) (hpl : (backTo pos (starEach es X.env)).any (·.1) = false := by rfl) : DO X c (.Call (.Name "len" p) (e :: es) [] pos) (opA (gA1 gLen) f) :=
  do_callB call_lenA (by rw [hM]; exact os_len) hm ha (hg := hg) (he := he) (hpl := hpl)
theorem do_int (hm : X.mg "int" = none) (ha : DA X c (e :: es) f) (hg : Gl X "int" := by rfl) (he : starEach (e :: es) X.env = (false, eval e X.env) :: starEach es X.env := by rfl) (hpl : (backTo pos (starEach es X.env)).any (·.1) = false := by rfl) : DO X c (.Call (.Name "int" p) (e :: es) [] pos) (opA (gA1 gInt) f) :=
  do_callTy call_intA os_int hm ha (hg := hg) (he := he) (hpl := hpl)
theorem do_list (hM : c.M = ⟨X.K, X.mg⟩) (hm : X.mg "list" = none) (ha : DA X c (e :: es) f) (hg : Gl X "list" := by rfl) (he : starEach (e :: es) X.env = (false, eval e X.env) :: starEach es X.env := by rfl) (hpl : (backTo pos (starEach es X.env)).any (·.1) = false := by rfl) : DO X c (.Call (.Name "list" p) (e :: es) [] pos) (opA (gA1 gList) f) :=
  do_callTy call_list_of (by rw [hM]; exact os_list) hm ha (hg := hg) (he := he) (hpl := hpl)
theorem do_tuple (hM : c.M = ⟨X.K, X.mg⟩) (hm : X.mg "tuple" = none) (ha : DA X c (e :: es) f) (hg : Gl X "tuple" := by rfl) (he : starEach (e :: es) X.env = (false, eval e X.env) :: starEach es X.env := by rfl) (hpl : (backTo pos (starEach es X.env)).any (·.1) = false := by rfl) : DO X c (.Call (.Name "tuple" p) (e :: es) [] pos) (opA (gA1 gTuple) f) :=
  do_callTy call_tuple_of (by rw [hM]; exact os_tuple) hm ha (hg := hg) (he := he) (hpl := hpl)
def min2 (i j : Int) : Int := if j < i then j else i
theorem do_min (hc : X.calm = true) (hm : X.mg "min" = none) (ha : DA X c (e :: es) f) (hg : Gl X "min" := by rfl) (he : starEach (e :: es) X.env = (false, eval e X.env) :: starEach es X.env := by rfl) (hpl : (backTo pos (starEach es X.env)).any (·.1) = false := by rfl) : DO X c (.Call (.Name "min" p) (e :: es) [] pos) (opA (gA2 (gI2 min2)) f) :=
  do_callB (call_min2 hc) (os_I2 (f := min2)) hm ha (hg := hg) (he := he) (hpl := hpl)
end
end
section
variable {P : Program} {w : World} {K : PySem.W.Frag} {mg : Str → Option Value} {base : Heap} {N : List Str} {qual : Str} {scope : Scope} {f : Addr} {cd : Value} {A : Around} {outer : List Env} {s : Shared} {H : Hp} {E : XK}
theorem tk_cx : Takes (cxOf (L2.CX P w) P w K mg base N qual scope f cd A outer s H E) (fun cls d _ H => E cls d H) := takes_of rfl rfl rfl rfl
theorem hp_cx : PassesOwn (model P w) (A.deeper (envOfC qual scope s.heap.objs.size f cd)) (envOfC qual scope s.heap.objs.size f cd) (cxOf (L2.CX P w) P w K mg base N qual scope f cd A outer s H E).xe := passes_of (X := cxOf (L2.CX P w) P w K mg base N qual scope f cd A outer s H E) rfl
end
/-- more than any loop turns -/
def fuel : Nat := 2 ^ 62
end Nv
-- N17
namespace Nv
/-- shut, so that the kernel does not run it -/
noncomputable def shut {α : Type} (a : α) : α := Classical.choose (⟨a, rfl⟩ : ∃ b : α, b = a)
theorem shut_eq {α : Type} (a : α) : shut a = a := Classical.choose_spec (⟨a, rfl⟩ : ∃ b : α, b = a)
open PySem PySem.Spec PyProof.Rows L2
open Evl (Ex)
def fgO (vs : List Nat) : Out → Out
  | .nx Γ => .nx (wipeG Γ vs)
  | .bk Γ => .bk (wipeG Γ vs)
  | .ct Γ => .ct (wipeG Γ vs)
  | o => o
def fgS (vs : List Nat) (f : Ev → Out) : Ev → Out := fun Γ => fgO vs (f Γ)
theorem dss_fg {X : Cx} {c : Cf} {ss : List Stmt} {f : Ev → Out} {vs : List Nat} (h : DSs X c ss f) : DSs X c ss (fgS vs f) := by
  refine PSs.of h fun De σ H ⟨F, Γ, r, q⟩ => ⟨F, Γ, r, ?_⟩
  have go : ∀ {Γ' : Ev} {σ' : L2.St} {F' H' : Hp}, Rel c.M c.σ0 F' H' σ' Γ' → Ext (own σ Γ) F H (own σ' Γ') F' H' → Rel c.M c.σ0 F' H' σ' (wipeG Γ' vs) ∧ Ext (own σ Γ) F H (own σ' (wipeG Γ' vs)) F' H' := fun {Γ' σ' F' H'} r' e' => by
    refine ⟨rel_wipe (vs := []) (hs := vs) r' (fun i hi => by cases hi), e'.subA fun b z => ?_⟩
    obtain ⟨i, t, o, _, g1, g2⟩ := own_wipe (σ := σ') (vs := []) (hs := vs) (fun i hi => by cases hi) z
    exact ⟨i, t, o, g1, g2⟩
  unfold fgS at q
  cases hf : f Γ with
  | nx Γ' => rw [hf] at q; exact fun σ' F' H' r' e' => q σ' F' H' (go r' e').1 (go r' e').2
  | bk Γ' => rw [hf] at q; exact fun σ' F' H' r' e' => q σ' F' H' (go r' e').1 (go r' e').2
  | ct Γ' => rw [hf] at q; exact fun σ' F' H' r' e' => q σ' F' H' (go r' e').1 (go r' e').2
  | rt av Γ' => rw [hf] at q; exact q
  | ex n l Γ' => rw [hf] at q; exact q
  | bad => rw [hf] at q; exact q
theorem FldOk.nil {K : PySem.W.Frag} {mg : Str → Option Value} {f : Str} : FldOk ⟨K, mg⟩ f [] := fun n h => by cases h
theorem FldOk.cons {K : PySem.W.Frag} {mg : Str → Option Value} {f n : Str} {cs : List Str} {C : Addr} (m : mg n = some (.ref C)) (k : Cls K C) (a : NoAttr K C f) (t : FldOk ⟨K, mg⟩ f cs) : FldOk ⟨K, mg⟩ f (n :: cs) := fun x hx C' hC => by
  rcases List.mem_cons.mp hx with e | hx
  · subst e
    have hC' : mg x = some (.ref C') := hC
    rw [m] at hC'
    cases hC'
    exact ⟨k, a⟩
  · exact t x hx C' hC
theorem FldOk.skip {K : PySem.W.Frag} {mg : Str → Option Value} {f n : Str} {cs : List Str} (m : mg n = none) (t : FldOk ⟨K, mg⟩ f cs) : FldOk ⟨K, mg⟩ f (n :: cs) := fun x hx C' hC => by
  rcases List.mem_cons.mp hx with e | hx
  · subst e
    have hC' : mg x = some (.ref C') := hC
    rw [m] at hC'
    cases hC'
  · exact t x hx C' hC
/-- all but the tables -/
def noT (H : Hp) : Hp := fun b => match H b with
  | some (.tbl _) => none
  | u => u
theorem noT_some {H : Hp} {b : Addr} {u : HO} (h : noT H b = some u) : H b = some u ∧ NTb u := by
  unfold noT at h
  split at h
  · cases h
  · rename_i z
    exact ⟨h, ntb_of fun ps e => by subst e; exact z ps h⟩
theorem noT_of {H : Hp} {b : Addr} {u : HO} (h : H b = some u) (nt : NTb u) : noT H b = some u := by
  unfold noT
  split
  · rename_i ps z
    rw [h] at z
    cases z
    exact nt.elim
  · exact h
theorem noT_sq {K : PySem.W.Frag} {H : Hp} {a : Addr} {xs : List V} (h : SqL K H a xs) : SqL K (noT H) a xs := by
  rcases h with (h | ⟨o, h⟩) | h
  · exact .inl (.inl (noT_of h trivial))
  · exact .inl (.inr ⟨o, noT_of h trivial⟩)
  · exact .inr h
/-- the law's promise, by numbers -/
def spLaw (K : PySem.W.Frag) (mg : Str → Option Value) : Sp := fun vs H Q _ => ∃ (a : Addr) (ns : List Int), vs = [.ref a] ∧ SqL K H a (ns.map V.int) ∧ ns.length ≤ 63 ∧ NdefX.TabsN (tabsOf ⟨K, mg⟩) H ∧ ∀ H', Q (.bl true) H'
theorem law_imp {K : PySem.W.Frag} {mg : Str → Option Value} {f : List AV → FR} (ht : ∀ ns : List Int, ns.length ≤ 63 → ∃ outs, f [.dat (.fz (ns.map D.int))] = .ok (.dat (.bl true)) outs) (vs : List V) (H : Hp) (Q : VK) (E : XK) (h : spLaw K mg vs H Q E) : spD ⟨K, mg⟩ 1 f vs H Q E := by
  obtain ⟨a, ns, rfl, hS, hl, hT, k⟩ := h
  refine ⟨rfl, noT H, [.dat (.fz (ns.map D.int))], ⟨fun b u z => (noT_some z).1, rfl, fun i s g h1 h2 => ?_, fun i j t o t' o' b h1 => ?_, ⟨hT, fun b ps z => (noT_some z).2⟩⟩, ?_⟩
  · cases i with
    | zero =>
      cases h1
      cases h2
      exact ⟨_, rfl, rep_fz.mpr ⟨a, _, rfl, noT_sq hS, Reps.mkInts⟩⟩
    | succ i => cases h1
  · cases i with
    | zero => cases h1
    | succ i => cases h1
  · obtain ⟨outs, e⟩ := ht ns hl
    rw [e]
    intro F' H' v _ _ a
    have e := rep_bl.mp (show Rep (⟨K, mg⟩ : Md) F' (.bl true) v from a)
    subst e
    exact k H'
end Nv
-- N18
namespace Nv
open PySem PySem.Spec PyProof.Rows L2
section
variable {α β : Type}
theorem Rs.bind_ok {a : α} {Γ : Ev} {k : α → Ev → Rs β} : (Rs.ok a Γ).bind k = k a Γ := rfl
theorem Rs.bind_ex {n : Str} {l : List (Str × D)} {Γ : Ev} {k : α → Ev → Rs β} : (Rs.ex n l Γ).bind k = .ex n l Γ := rfl
theorem Rs.out_ok {a : α} {Γ : Ev} {k : α → Ev → Out} : (Rs.ok a Γ).out k = k a Γ := rfl
theorem Rs.out_ex {n : Str} {l : List (Str × D)} {Γ : Ev} {k : α → Ev → Out} : (Rs.ex n l Γ).out k = .ex n l Γ := rfl
theorem Out.seq_nx {Γ : Ev} {k : Ev → Out} : (Out.nx Γ).seq k = k Γ := rfl
theorem Out.seq_rt {av : AV} {Γ : Ev} {k : Ev → Out} : (Out.rt av Γ).seq k = .rt av Γ := rfl
theorem Out.seq_bk {Γ : Ev} {k : Ev → Out} : (Out.bk Γ).seq k = .bk Γ := rfl
theorem Out.seq_ct {Γ : Ev} {k : Ev → Out} : (Out.ct Γ).seq k = .ct Γ := rfl
theorem Out.seq_ex {n : Str} {l : List (Str × D)} {Γ : Ev} {k : Ev → Out} : (Out.ex n l Γ).seq k = .ex n l Γ := rfl
end
structure Pn where
  cells : List Int
  at_ : Int
  left : Int
def Pn.o (p : Pn) : O := .dct [(.str ("cells" : Str), .lst (p.cells.map .int)), (.str ("at" : Str), .int p.at_), (.str ("left" : Str), .int p.left)]
def Pn.d (p : Pn) : D := .dct [(.str ("cells" : Str), .lst (p.cells.map .int)), (.str ("at" : Str), .int p.at_), (.str ("left" : Str), .int p.left)]
theorem Pn.od (p : Pn) : p.o.d = p.d := rfl
theorem Pn.ix_left (p : Pn) : gIx p.d (.str ("left" : Str)) = some (.dat (.int p.left)) := rfl
theorem Pn.ix_at (p : Pn) : gIx p.d (.str ("at" : Str)) = some (.dat (.int p.at_)) := rfl
theorem Pn.ix_cells (p : Pn) : gIx p.d (.str ("cells" : Str)) = some (.dat (.lst (p.cells.map .int))) := rfl
theorem Pn.put_left (p : Pn) (x : Int) : gPut p.o (.str ("left" : Str)) (.int x) = some ({ p with left := x } : Pn).o := rfl
theorem Pn.put_at (p : Pn) (x : Int) : gPut p.o (.str ("at" : Str)) (.int x) = some ({ p with at_ := x } : Pn).o := rfl
theorem eqds_ints : ∀ l : List Int, D.eqds (l.map .int) = some 0
  | [] => rfl
  | a :: l => by rw [List.map_cons, D.eqds, eqds_ints l]; rfl
theorem ne_ints (l : List Int) : gNe (.lst (l.map .int)) (.lst []) = some (.dat (.bl (decide (l ≠ [])))) := by
  have h : (D.lst (l.map .int)).eqs = true := by unfold D.eqs D.eqd; rw [eqds_ints]; rfl
  unfold gNe
  rw [h]
  cases l with
  | nil => rfl
  | cons a l => rfl
section
variable {Γ : Ev} {f f1 f2 f3 fa fb fc fo : Ev → Rs AV} {b b1 b2 b3 : Ev → Rs OV} {d d1 d2 : Ev → Rs D} {as : Ev → Rs (List OV)} {t u : Ev → Rs Bool} {s s1 s2 : Ev → Out} {i j l n : Nat} {gd : TgF} {ps : Ev → Rs (List (D × D))} {x m : Str} {cs : List Str} {vs : List Nat} {dd dk dv : D} {o : O} {av a1 a2 a3 : AV} {ov o1 o2 o3 : OV} {os : List OV} {k : Bool} {lo hi : Option Int} {fl fh : Ev → Rs (Option Int)} {g g' : D → D → Option AV} {g1 : D → Option AV} {gl : List D → Option AV} {gm : List D → List D → Option (D × List D)} {gf : List AV → FR} {mk : List D → AV} {p : List D × List Nat} {items : List D} {dps : List (D × D)} {src : Ev → Rs (List D)} {srcp : Ev → Rs (List D × List Nat)}
theorem seqS_ap : seqS s1 s2 Γ = (s1 Γ).seq s2 := rfl
theorem nilS_ap : nilS Γ = .nx Γ := rfl
def kSet (i : Nat) (av : AV) (Γ : Ev) : Out := optS (setG Γ i av)
theorem kSet_ap : kSet i av Γ = optS (setG Γ i av) := rfl
theorem setS_ap : setS i f Γ = (f Γ).out (kSet i) := rfl
def kIf (s1 : Ev → Out) (s2 : Ev → Out) (k : Bool) (Γ : Ev) : Out := if k = true then s1 Γ else s2 Γ
theorem kIf_ap : kIf s1 s2 k Γ = if k = true then s1 Γ else s2 Γ := rfl
theorem ifS_ap : ifS t s1 s2 Γ = (t Γ).out (kIf s1 s2) := rfl
def kExpr  (av : AV) (Γ : Ev) : Out := .nx Γ
theorem kExpr_ap : kExpr av Γ = .nx Γ := rfl
theorem exprS_ap : exprS f Γ = (f Γ).out kExpr := rfl
def kRet  (av : AV) (Γ : Ev) : Out := .rt av Γ
theorem kRet_ap : kRet av Γ = .rt av Γ := rfl
theorem retS_ap : retS f Γ = (f Γ).out kRet := rfl
theorem retN_ap : retN Γ = .rt (.dat .non) Γ := rfl
def kOp2b (g : D → D → Option AV) (o1 : OV) (o2 : OV) (Γ : Ev) : Rs AV := op2R g o1 o2 Γ
theorem kOp2b_ap : kOp2b g o1 o2 Γ = op2R g o1 o2 Γ := rfl
def kOp2 (g : D → D → Option AV) (b2 : Ev → Rs OV) (o1 : OV) (Γ : Ev) : Rs AV := (b2 Γ).bind (kOp2b g o1)
theorem kOp2_ap : kOp2 g b2 o1 Γ = (b2 Γ).bind (kOp2b g o1) := rfl
theorem op2_ap : op2 g b1 b2 Γ = (b1 Γ).bind (kOp2 g b2) := rfl
def kOp1 (g1 : D → Option AV) (ov : OV) (Γ : Ev) : Rs AV := op1R g1 ov Γ
theorem kOp1_ap : kOp1 g1 ov Γ = op1R g1 ov Γ := rfl
theorem op1_ap : op1 g1 b1 Γ = (b1 Γ).bind (kOp1 g1) := rfl
def kOpA (gl : List D → Option AV) (os : List OV) (Γ : Ev) : Rs AV := opR gl os Γ
theorem kOpA_ap : kOpA gl os Γ = opR gl os Γ := rfl
theorem opA_ap : opA gl as Γ = (as Γ).bind (kOpA gl) := rfl
def kDatB  (dd : D) (Γ : Ev) : Rs OV := .ok (.dat dd) Γ
theorem kDatB_ap : kDatB dd Γ = .ok (.dat dd) Γ := rfl
theorem datB_ap : datB d Γ = (d Γ).bind kDatB := rfl
def kDatO  (dd : D) (Γ : Ev) : Rs AV := .ok (.dat dd) Γ
theorem kDatO_ap : kDatO dd Γ = .ok (.dat dd) Γ := rfl
theorem datO_ap : datO d Γ = (d Γ).bind kDatO := rfl
theorem cst_ap : cst dd Γ = .ok dd Γ := rfl
def kFrz  (av : AV) (Γ : Ev) : Rs D := .ok av.d Γ
theorem kFrz_ap : kFrz av Γ = .ok av.d Γ := rfl
theorem frzE_ap : frzE f Γ = (f Γ).bind kFrz := rfl
theorem nilA_ap : nilA Γ = .ok [] Γ := rfl
def kConsb (ov : OV) (os : List OV) (Γ : Ev) : Rs (List OV) := .ok (ov :: os) Γ
theorem kConsb_ap : kConsb ov os Γ = .ok (ov :: os) Γ := rfl
def kCons (as : Ev → Rs (List OV)) (ov : OV) (Γ : Ev) : Rs (List OV) := (as Γ).bind (kConsb ov)
theorem kCons_ap : kCons as ov Γ = (as Γ).bind (kConsb ov) := rfl
theorem consA_ap : consA b as Γ = (b Γ).bind (kCons as) := rfl
def kDisp (mk : List D → AV) (os : List OV) (Γ : Ev) : Rs AV := dispR mk os Γ
theorem kDisp_ap : kDisp mk os Γ = dispR mk os Γ := rfl
theorem tupE_ap : tupE as Γ = (as Γ).bind (kDisp fun ds => .dat (.tup ds)) := rfl
theorem lstE_ap : lstE as Γ = (as Γ).bind (kDisp fun ds => .own (.lst ds)) := rfl
def kTst  (av : AV) (Γ : Ev) : Rs Bool := (match av with | .dat (.bl b) => .ok b Γ | _ => .bad)
theorem kTst_ap : kTst av Γ = (match av with | .dat (.bl b) => .ok b Γ | _ => .bad) := rfl
theorem tstE_ap : tstE f Γ = (f Γ).bind kTst := rfl
def kAndT (u : Ev → Rs Bool) (k : Bool) (Γ : Ev) : Rs Bool := if k = true then u Γ else .ok false Γ
theorem kAndT_ap : kAndT u k Γ = if k = true then u Γ else .ok false Γ := rfl
theorem andT_ap : andT t u Γ = (t Γ).bind (kAndT u) := rfl
def kOrT (u : Ev → Rs Bool) (k : Bool) (Γ : Ev) : Rs Bool := if k = true then .ok true Γ else u Γ
theorem kOrT_ap : kOrT u k Γ = if k = true then .ok true Γ else u Γ := rfl
theorem orT_ap : orT t u Γ = (t Γ).bind (kOrT u) := rfl
def kNotT  (k : Bool) (Γ : Ev) : Rs Bool := .ok (!k) Γ
theorem kNotT_ap : kNotT k Γ = .ok (!k) Γ := rfl
theorem notT_ap : notT t Γ = (t Γ).bind kNotT := rfl
theorem yesT_ap : yesT Γ = .ok true Γ := rfl
def kAndO (f2 : Ev → Rs AV) (av : AV) (Γ : Ev) : Rs AV := (match av with | .dat (.bl true) => f2 Γ | .dat (.bl false) => .ok (.dat (.bl false)) Γ | _ => .bad)
theorem kAndO_ap {c : Bool} : kAndO f2 (.dat (.bl c)) Γ = if c = true then f2 Γ else .ok (.dat (.bl false)) Γ := by cases c <;> rfl
theorem andO_ap : andO f1 f2 Γ = (f1 Γ).bind (kAndO f2) := rfl
def kOrO (f2 : Ev → Rs AV) (av : AV) (Γ : Ev) : Rs AV := (match av with | .dat (.bl true) => .ok (.dat (.bl true)) Γ | .dat (.bl false) => f2 Γ | _ => .bad)
theorem kOrO_ap {c : Bool} : kOrO f2 (.dat (.bl c)) Γ = if c = true then .ok (.dat (.bl true)) Γ else f2 Γ := by cases c <;> rfl
theorem orO_ap : orO f1 f2 Γ = (f1 Γ).bind (kOrO f2) := rfl
def kNotO  (av : AV) (Γ : Ev) : Rs AV := (match av with | .dat (.bl c) => .ok (.dat (.bl (!c))) Γ | _ => .bad)
theorem kNotO_ap : kNotO av Γ = (match av with | .dat (.bl c) => .ok (.dat (.bl (!c))) Γ | _ => .bad) := rfl
theorem notO_ap : notO f Γ = (f Γ).bind kNotO := rfl
def kIfO (f1 : Ev → Rs AV) (f2 : Ev → Rs AV) (k : Bool) (Γ : Ev) : Rs AV := if k = true then f1 Γ else f2 Γ
theorem kIfO_ap : kIfO f1 f2 k Γ = if k = true then f1 Γ else f2 Γ := rfl
theorem ifO_ap : ifO t f1 f2 Γ = (t Γ).bind (kIfO f1 f2) := rfl
def kSl3 (ov : OV) (lo : Option Int) (hi : Option Int) (Γ : Ev) : Rs AV := op1R (gSl lo hi) ov Γ
theorem kSl3_ap : kSl3 ov lo hi Γ = op1R (gSl lo hi) ov Γ := rfl
def kSl2 (ov : OV) (fh : Ev → Rs (Option Int)) (lo : Option Int) (Γ : Ev) : Rs AV := (fh Γ).bind (kSl3 ov lo)
theorem kSl2_ap : kSl2 ov fh lo Γ = (fh Γ).bind (kSl3 ov lo) := rfl
def kSl1 (fl : Ev → Rs (Option Int)) (fh : Ev → Rs (Option Int)) (ov : OV) (Γ : Ev) : Rs AV := (fl Γ).bind (kSl2 ov fh)
theorem kSl1_ap : kSl1 fl fh ov Γ = (fl Γ).bind (kSl2 ov fh) := rfl
theorem sliceO_ap : sliceO b fl fh Γ = (b Γ).bind (kSl1 fl fh) := rfl
theorem noPart_ap : noPart Γ = .ok none Γ := rfl
def kPart  (av : AV) (Γ : Ev) : Rs (Option Int) := (match av with | .dat (.int i) => .ok (some i) Γ | _ => .bad)
theorem kPart_ap : kPart av Γ = (match av with | .dat (.int i) => .ok (some i) Γ | _ => .bad) := rfl
theorem partO_ap : partO f Γ = (f Γ).bind kPart := rfl
def kPut2 (i : Nat) (dd : D) (ov : OV) (Γ : Ev) : Out := optS (putR i ov dd Γ)
theorem kPut2_ap : kPut2 i dd ov Γ = optS (putR i ov dd Γ) := rfl
def kPut (i : Nat) (b : Ev → Rs OV) (dd : D) (Γ : Ev) : Out := if isOwn Γ i = true then (b Γ).out (kPut2 i dd) else .bad
theorem kPut_ap : kPut i b dd Γ = if isOwn Γ i = true then (b Γ).out (kPut2 i dd) else .bad := rfl
theorem putS_ap : putS i b d Γ = (d Γ).out (kPut i b) := rfl
def kCall (n : Nat) (gf : List AV → FR) (os : List OV) (Γ : Ev) : Rs AV := if os.length = n then callR gf os Γ else .bad
theorem kCall_ap : kCall n gf os Γ = if os.length = n then callR gf os Γ else .bad := rfl
theorem callO_ap : callO n gf as Γ = (as Γ).bind (kCall n gf) := rfl
def kAsg (gd : TgF) (dd : D) (Γ : Ev) : Out := optS (gd dd Γ)
theorem kAsg_ap : kAsg gd dd Γ = optS (gd dd Γ) := rfl
theorem asgS_ap : asgS gd d Γ = (d Γ).out (kAsg gd) := rfl
def kPar2b (i : Nat) (j : Nat) (a1 : AV) (a2 : AV) (Γ : Ev) : Out := optS ((setG Γ i a1).bind fun Γ3 => setG Γ3 j a2)
theorem kPar2b_ap : kPar2b i j a1 a2 Γ = optS ((setG Γ i a1).bind fun Γ3 => setG Γ3 j a2) := rfl
def kPar2 (i : Nat) (j : Nat) (f2 : Ev → Rs AV) (a1 : AV) (Γ : Ev) : Out := (f2 Γ).out (kPar2b i j a1)
theorem kPar2_ap : kPar2 i j f2 a1 Γ = (f2 Γ).out (kPar2b i j a1) := rfl
theorem par2_ap : par2 i j f1 f2 Γ = (f1 Γ).out (kPar2 i j f2) := rfl
def kPar3c (i : Nat) (j : Nat) (l : Nat) (a1 : AV) (a2 : AV) (a3 : AV) (Γ : Ev) : Out := optS ((setG Γ i a1).bind fun Γ4 => (setG Γ4 j a2).bind fun Γ5 => setG Γ5 l a3)
theorem kPar3c_ap : kPar3c i j l a1 a2 a3 Γ = optS ((setG Γ i a1).bind fun Γ4 => (setG Γ4 j a2).bind fun Γ5 => setG Γ5 l a3) := rfl
def kPar3b (i : Nat) (j : Nat) (l : Nat) (f3 : Ev → Rs AV) (a1 : AV) (a2 : AV) (Γ : Ev) : Out := (f3 Γ).out (kPar3c i j l a1 a2)
theorem kPar3b_ap : kPar3b i j l f3 a1 a2 Γ = (f3 Γ).out (kPar3c i j l a1 a2) := rfl
def kPar3 (i : Nat) (j : Nat) (l : Nat) (f2 : Ev → Rs AV) (f3 : Ev → Rs AV) (a1 : AV) (Γ : Ev) : Out := (f2 Γ).out (kPar3b i j l f3 a1)
theorem kPar3_ap : kPar3 i j l f2 f3 a1 Γ = (f2 Γ).out (kPar3b i j l f3 a1) := rfl
theorem par3_ap : par3 i j l f1 f2 f3 Γ = (f1 Γ).out (kPar3 i j l f2 f3) := rfl
theorem newE_ap : newE o Γ = .ok (.own o) Γ := rfl
def kDt2 (ov : OV) (dd : D) (Γ : Ev) : Rs AV := (match ov.get Γ with | some k => (match k.keyT with | some _ => .ok (.own (.dtt [(k, dd)])) Γ | none => .bad) | none => .bad)
theorem kDt2_ap : kDt2 ov dd Γ = (match ov.get Γ with | some k => (match k.keyT with | some _ => .ok (.own (.dtt [(k, dd)])) Γ | none => .bad) | none => .bad) := rfl
def kDt1 (d : Ev → Rs D) (ov : OV) (Γ : Ev) : Rs AV := (d Γ).bind (kDt2 ov)
theorem kDt1_ap : kDt1 d ov Γ = (d Γ).bind (kDt2 ov) := rfl
theorem dispTO_ap : dispTO b d Γ = (b Γ).bind (kDt1 d) := rfl
def kGet1b (o1 : OV) (o2 : OV) (Γ : Ev) : Rs AV := getR (fun r => r.getD .non) o1 o2 Γ
theorem kGet1b_ap : kGet1b o1 o2 Γ = getR (fun r => r.getD .non) o1 o2 Γ := rfl
def kGet1 (b2 : Ev → Rs OV) (o1 : OV) (Γ : Ev) : Rs AV := if (match o1.get Γ with | some d => isDct d | none => false) = true then (b2 Γ).bind (kGet1b o1) else .bad
theorem kGet1_ap : kGet1 b2 o1 Γ = if (match o1.get Γ with | some d => isDct d | none => false) = true then (b2 Γ).bind (kGet1b o1) else .bad := rfl
theorem get1O_ap : get1O b1 b2 Γ = (b1 Γ).bind (kGet1 b2) := rfl
def kGet2c (o1 : OV) (o2 : OV) (dd : D) (Γ : Ev) : Rs AV := getR (fun r => r.getD dd) o1 o2 Γ
theorem kGet2c_ap : kGet2c o1 o2 dd Γ = getR (fun r => r.getD dd) o1 o2 Γ := rfl
def kGet2b (d : Ev → Rs D) (o1 : OV) (o2 : OV) (Γ : Ev) : Rs AV := (d Γ).bind (kGet2c o1 o2)
theorem kGet2b_ap : kGet2b d o1 o2 Γ = (d Γ).bind (kGet2c o1 o2) := rfl
def kGet2 (b2 : Ev → Rs OV) (d : Ev → Rs D) (o1 : OV) (Γ : Ev) : Rs AV := if (match o1.get Γ with | some d => isDct d | none => false) = true then (b2 Γ).bind (kGet2b d o1) else .bad
theorem kGet2_ap : kGet2 b2 d o1 Γ = if (match o1.get Γ with | some d => isDct d | none => false) = true then (b2 Γ).bind (kGet2b d o1) else .bad := rfl
theorem get2O_ap : get2O b1 b2 d Γ = (b1 Γ).bind (kGet2 b2 d) := rfl
def kMut (i : Nat) (gm : List D → List D → Option (D × List D)) (os : List OV) (Γ : Ev) : Rs AV := mutR i gm os Γ
theorem kMut_ap : kMut i gm os Γ = mutR i gm os Γ := rfl
theorem mutL_ap : mutL i gm as Γ = if isLst Γ i = true then (as Γ).bind (kMut i gm) else .bad := rfl
def kFld (i : Nat) (x : Str) (cs : List Str) (dd : D) (Γ : Ev) : Out := optS (fldR i x cs dd Γ)
theorem kFld_ap : kFld i x cs dd Γ = optS (fldR i x cs dd Γ) := rfl
theorem fldS_ap : fldS i x cs d Γ = (d Γ).out (kFld i x cs) := rfl
def kJoin2 (o1 : OV) (o2 : OV) (Γ : Ev) : Rs AV := op2R gJoin o1 o2 Γ
theorem kJoin2_ap : kJoin2 o1 o2 Γ = op2R gJoin o1 o2 Γ := rfl
def kJoin (b2 : Ev → Rs OV) (o1 : OV) (Γ : Ev) : Rs AV := (match o1.get Γ with | some (.str _) => (b2 Γ).bind (kJoin2 o1) | _ => .bad)
theorem kJoin_ap : kJoin b2 o1 Γ = (match o1.get Γ with | some (.str _) => (b2 Γ).bind (kJoin2 o1) | _ => .bad) := rfl
theorem joinO_ap : joinO b1 b2 Γ = (b1 Γ).bind (kJoin b2) := rfl
theorem fgS_ap : fgS vs s Γ = fgO vs (s Γ) := rfl
def kFor (gd : TgF) (s : Ev → Out) (items : List D) (Γ : Ev) : Out := forL gd s items Γ
theorem kFor_ap : kFor gd s items Γ = forL gd s items Γ := rfl
theorem forS_ap : forS gd src s Γ = (src Γ).out (kFor gd s) := rfl
def kBare  (p : List D × List Nat) (Γ : Ev) : Rs (List D) := (match p.2 with | [] => .ok p.1 Γ | _ => .bad)
theorem kBare_ap : kBare p Γ = (match p.2 with | [] => .ok p.1 Γ | _ => .bad) := rfl
theorem bare_ap : bare srcp Γ = (srcp Γ).bind kBare := rfl
def kSeqI  (ov : OV) (Γ : Ev) : Rs (List D × List Nat) := (match itemsOV2 Γ ov with | some p => .ok p Γ | none => .bad)
theorem kSeqI_ap : kSeqI ov Γ = (match itemsOV2 Γ ov with | some p => .ok p Γ | none => .bad) := rfl
theorem seqI_ap : seqI b Γ = (b Γ).bind kSeqI := rfl
def kEnI  (os : List OV) (Γ : Ev) : Rs (List D × List Nat) := (match os with | [o] => (match itemsOV Γ o with | some p => .ok (enumD 0 p.1, p.2) Γ | none => .bad) | _ => .bad)
theorem kEnI_ap : kEnI os Γ = (match os with | [o] => (match itemsOV Γ o with | some p => .ok (enumD 0 p.1, p.2) Γ | none => .bad) | _ => .bad) := rfl
theorem enI_ap : enI as Γ = (as Γ).bind kEnI := rfl
def kRng1  (os : List OV) (Γ : Ev) : Rs (List D × List Nat) := (match gets Γ os with | some [.int j] => if rngOk j = true then .ok (rangeD 0 j.toNat, []) Γ else .bad | _ => .bad)
theorem kRng1_ap : kRng1 os Γ = (match gets Γ os with | some [.int j] => if rngOk j = true then .ok (rangeD 0 j.toNat, []) Γ else .bad | _ => .bad) := rfl
theorem rngI1_ap : rngI1 as Γ = (as Γ).bind kRng1 := rfl
def kRng2  (os : List OV) (Γ : Ev) : Rs (List D × List Nat) := (match gets Γ os with | some [.int i, .int j] => if rngOk i = true ∧ rngOk j = true then .ok (rangeD i (j - i).toNat, []) Γ else .bad | _ => .bad)
theorem kRng2_ap : kRng2 os Γ = (match gets Γ os with | some [.int i, .int j] => if rngOk i = true ∧ rngOk j = true then .ok (rangeD i (j - i).toNat, []) Γ else .bad | _ => .bad) := rfl
theorem rngI2_ap : rngI2 as Γ = (as Γ).bind kRng2 := rfl
def kComp (vs : List Nat) (gd : TgF) (t : Ev → Rs Bool) (d : Ev → Rs D) (p : List D × List Nat) (Γ : Ev) : Rs AV := (match compL (wipeG Γ (vs ++ p.2)) gd t d p.1 [] (wipeG Γ (vs ++ p.2)) with | some (acc, Γ2) => .ok (.own (.lst acc)) (unw Γ Γ2 (vs ++ p.2)) | none => .bad)
theorem kComp_ap : kComp vs gd t d p Γ = (match compL (wipeG Γ (vs ++ p.2)) gd t d p.1 [] (wipeG Γ (vs ++ p.2)) with | some (acc, Γ2) => .ok (.own (.lst acc)) (unw Γ Γ2 (vs ++ p.2)) | none => .bad) := rfl
theorem compO_ap : compO vs srcp gd t d Γ = (srcp Γ).bind (kComp vs gd t d) := rfl
def kMake (x : Str) (n : Nat) (gf : List AV → FR) (os : List OV) (Γ : Ev) : Rs AV := if os.length + 1 = n then makeR x gf os Γ else .bad
theorem kMake_ap : kMake x n gf os Γ = if os.length + 1 = n then makeR x gf os Γ else .bad := rfl
theorem makeO_ap : makeO x n gf as Γ = (as Γ).bind (kMake x n gf) := rfl
def kMeth2 (n : Nat) (gf : List AV → FR) (ov : OV) (os : List OV) (Γ : Ev) : Rs AV := if os.length + 1 = n then callR gf (ov :: os) Γ else .bad
theorem kMeth2_ap : kMeth2 n gf ov os Γ = if os.length + 1 = n then callR gf (ov :: os) Γ else .bad := rfl
def kMeth (x : Str) (m : Str) (n : Nat) (gf : List AV → FR) (as : Ev → Rs (List OV)) (ov : OV) (Γ : Ev) : Rs AV := if (match ov.get Γ with | some d => isIns x m d | none => false) = true then (as Γ).bind (kMeth2 n gf ov) else .bad
theorem kMeth_ap : kMeth x m n gf as ov Γ = if (match ov.get Γ with | some d => isIns x m d | none => false) = true then (as Γ).bind (kMeth2 n gf ov) else .bad := rfl
theorem methO_ap : methO x m n gf b as Γ = (b Γ).bind (kMeth x m n gf as) := rfl
def kDct  (dps : List (D × D)) (Γ : Ev) : Rs AV := if keysOk dps = true ∧ dps.length ≤ 15 then .ok (.own (.dct (merD [] dps))) Γ else .bad
theorem kDct_ap : kDct dps Γ = if keysOk dps = true ∧ dps.length ≤ 15 then .ok (.own (.dct (merD [] dps))) Γ else .bad := rfl
theorem dispO_ap : dispO ps Γ = (ps Γ).bind kDct := rfl
theorem prNil_ap : prNil Γ = .ok [] Γ := rfl
def kPr3 (dk : D) (dv : D) (dps : List (D × D)) (Γ : Ev) : Rs (List (D × D)) := .ok ((dk, dv) :: dps) Γ
theorem kPr3_ap : kPr3 dk dv dps Γ = .ok ((dk, dv) :: dps) Γ := rfl
def kPr2 (ps : Ev → Rs (List (D × D))) (dk : D) (dv : D) (Γ : Ev) : Rs (List (D × D)) := (ps Γ).bind (kPr3 dk dv)
theorem kPr2_ap : kPr2 ps dk dv Γ = (ps Γ).bind (kPr3 dk dv) := rfl
def kPr1 (d2 : Ev → Rs D) (ps : Ev → Rs (List (D × D))) (dk : D) (Γ : Ev) : Rs (List (D × D)) := (d2 Γ).bind (kPr2 ps dk)
theorem kPr1_ap : kPr1 d2 ps dk Γ = (d2 Γ).bind (kPr2 ps dk) := rfl
theorem prCons_ap : prCons d1 d2 ps Γ = (d1 Γ).bind (kPr1 d2 ps) := rfl
def kCh3 (g' : D → D → Option AV) (o2 : OV) (o3 : OV) (Γ : Ev) : Rs AV := op2R g' o2 o3 Γ
theorem kCh3_ap : kCh3 g' o2 o3 Γ = op2R g' o2 o3 Γ := rfl
def kCh2 (g : D → D → Option AV) (g' : D → D → Option AV) (b3 : Ev → Rs OV) (o1 : OV) (o2 : OV) (Γ : Ev) : Rs AV := (match g2 g o1 o2 Γ with | some (.dat (.bl true)) => (b3 Γ).bind (kCh3 g' o2) | some (.dat (.bl false)) => .ok (.dat (.bl false)) Γ | _ => .bad)
theorem kCh2_ap : kCh2 g g' b3 o1 o2 Γ = (match g2 g o1 o2 Γ with | some (.dat (.bl true)) => (b3 Γ).bind (kCh3 g' o2) | some (.dat (.bl false)) => .ok (.dat (.bl false)) Γ | _ => .bad) := rfl
def kCh1 (g : D → D → Option AV) (g' : D → D → Option AV) (b2 : Ev → Rs OV) (b3 : Ev → Rs OV) (o1 : OV) (Γ : Ev) : Rs AV := (b2 Γ).bind (kCh2 g g' b3 o1)
theorem kCh1_ap : kCh1 g g' b2 b3 o1 Γ = (b2 Γ).bind (kCh2 g g' b3 o1) := rfl
theorem chainO_ap : chainO g g' b1 b2 b3 Γ = (b1 Γ).bind (kCh1 g g' b2 b3) := rfl
theorem chain_m {b : Bool} {x y : Rs AV} : (match some (AV.dat (.bl b)) with
  | some (.dat (.bl true)) => x
  | some (.dat (.bl false)) => y
  | _ => .bad) = if b = true then x else y := by cases b <;> rfl
theorem avd_dat : (AV.dat dd).d = dd := rfl
theorem avd_own : (AV.own o).d = o.d := rfl
theorem od_lst {l : List D} : (O.lst l).d = .lst l := rfl
theorem od_dct {l : List (D × D)} : (O.dct l).d = .dct l := rfl
theorem od_dtt {l : List (D × D)} : (O.dtt l).d = .dtt l := rfl
theorem od_ins {l : List (Str × D)} : (O.ins x l).d = .ins x l := rfl
end
theorem add_int {i j : Int} : gAdd (.int i) (.int j) = some (.dat (.int (i + j))) := rfl
theorem add_str {x y : Str} : gAdd (.str x) (.str y) = if x.length + y.length ≤ sizeLine then some (.dat (.str (x ++ y))) else none := rfl
theorem add_lst {x y : List D} : gAdd (.lst x) (.lst y) = if x.length + y.length ≤ sizeLine then some (.own (.lst (x ++ y))) else none := rfl
theorem ix_lst {l : List D} {i : Int} : gIx (.lst l) (.int i) = (atI l i).map .dat := rfl
theorem ix_tup {l : List D} {i : Int} : gIx (.tup l) (.int i) = (atI l i).map .dat := rfl
theorem ix_fz {l : List D} {i : Int} : gIx (.fz l) (.int i) = (atI l i).map .dat := rfl
theorem atI_at {α : Type} {l : List α} {i : Int} {x : α} (h0 : 0 ≤ i) (h : l[i.toNat]? = some x) : atI l i = some x := by
  have hl : i.toNat < l.length := (List.getElem?_eq_some_iff.mp h).1
  unfold atI ixN
  rw [if_pos h0, if_pos (by omega)]
  exact h
theorem atI_nat {α : Type} {l : List α} {i : Nat} {x : α} (h : l[i]? = some x) : atI l (i : Int) = some x := atI_at (Int.natCast_nonneg _) (by rw [Int.toNat_natCast]; exact h)
theorem atI_map {α β : Type} {f : α → β} {l : List α} {i : Int} : atI (l.map f) i = (atI l i).map f := by
  unfold atI
  rw [List.length_map]
  cases ixN l.length i with
  | none => rfl
  | some j => exact List.getElem?_map
theorem mulOk_l {i j : Int} (h1 : -(2 ^ 64) < i) (h2 : i < 2 ^ 64) : mulOk i j = true := by
  unfold mulOk
  rw [decide_eq_true (show -(2 ^ 64) < i ∧ i < 2 ^ 64 from ⟨h1, h2⟩)]
  rfl
theorem mulOk_r {i j : Int} (h1 : -(2 ^ 64) < j) (h2 : j < 2 ^ 64) : mulOk i j = true := by
  unfold mulOk
  rw [decide_eq_true (show -(2 ^ 64) < j ∧ j < 2 ^ 64 from ⟨h1, h2⟩), Bool.or_true]
  rfl
theorem sl0 : (0 ≤ sizeLine) = True := eq_true (by decide)
theorem sl1 : (1 ≤ sizeLine) = True := eq_true (by decide)
theorem sl2 : (2 ≤ sizeLine) = True := eq_true (by decide)
theorem sl3 : (3 ≤ sizeLine) = True := eq_true (by decide)
theorem sl4 : (4 ≤ sizeLine) = True := eq_true (by decide)
theorem sl5 : (5 ≤ sizeLine) = True := eq_true (by decide)
theorem sl6 : (6 ≤ sizeLine) = True := eq_true (by decide)
theorem sl7 : (7 ≤ sizeLine) = True := eq_true (by decide)
theorem sl8 : (8 ≤ sizeLine) = True := eq_true (by decide)
def runFin (args : List AV) : Out → FR
  | .nx Γ => FR.mk (.dat .non) (outA 0 args Γ)
  | .rt av Γ => FR.mk av (outA 0 args Γ)
  | .ex n l Γ => FR.mkx n l (outA 0 args Γ)
  | _ => .bad
theorem runF_ap {m : Nat} {body : Ev → Out} {args : List AV} : runF m body args = runFin args (body (tagA 0 args ++ List.replicate (m - args.length) .un)) := rfl
theorem runFin_nx {args : List AV} {Γ : Ev} : runFin args (.nx Γ) = FR.mk (.dat .non) (outA 0 args Γ) := rfl
theorem runFin_rt {args : List AV} {av : AV} {Γ : Ev} : runFin args (.rt av Γ) = FR.mk av (outA 0 args Γ) := rfl
theorem fgO_nx {vs : List Nat} {Γ : Ev} : fgO vs (.nx Γ) = .nx (wipeG Γ vs) := rfl
theorem fgO_bk {vs : List Nat} {Γ : Ev} : fgO vs (.bk Γ) = .bk (wipeG Γ vs) := rfl
theorem fgO_ct {vs : List Nat} {Γ : Ev} : fgO vs (.ct Γ) = .ct (wipeG Γ vs) := rfl
theorem fgO_rt {vs : List Nat} {av : AV} {Γ : Ev} : fgO vs (.rt av Γ) = .rt av Γ := rfl
end Nv
-- N19
namespace Nv
open PySem PySem.Spec PyProof.Rows L2
section
variable {S ι : Type} {g : TgF} {f : Ev → Out}
/-- a for whose body always goes on -/
theorem forL_eq (emb : S → Ev) (e : ι → D) (next : S → ι → S) (I : List ι → S → Prop) (h : ∀ x xs s, I (x :: xs) s → (∃ Γ1, g (e x) (emb s) = some Γ1 ∧ f Γ1 = .nx (emb (next s x))) ∧ I xs (next s x)) :
    ∀ (xs : List ι) (s : S), I xs s → forL g f (xs.map e) (emb s) = .nx (emb (xs.foldl next s))
  | [], s, _ => rfl
  | x :: xs, s, hI => by
    obtain ⟨⟨Γ1, h1, h2⟩, h3⟩ := h x xs s hI
    rw [List.map_cons, forL, h1]
    dsimp only
    rw [h2]
    exact forL_eq emb e next I h xs (next s x) h3
/-- .. by what holds ahead of each turn -/
theorem forL_inv (e : ι → D) (R : List ι → Ev → Prop) (h : ∀ x xs Γ, R (x :: xs) Γ → ∃ Γ', (∃ Γ1, g (e x) Γ = some Γ1 ∧ (f Γ1 = .nx Γ' ∨ f Γ1 = .ct Γ')) ∧ R xs Γ') :
    ∀ (xs : List ι) (Γ : Ev), R xs Γ → ∃ Γ', forL g f (xs.map e) Γ = .nx Γ' ∧ R [] Γ'
  | [], Γ, hR => ⟨Γ, rfl, hR⟩
  | x :: xs, Γ, hR => by
    obtain ⟨Γ', ⟨Γ1, h1, h2⟩, h3⟩ := h x xs Γ hR
    obtain ⟨Γ'', h4, h5⟩ := forL_inv e R h xs Γ' h3
    refine ⟨Γ'', ?_, h5⟩
    rw [List.map_cons, forL, h1]
    dsimp only
    rcases h2 with h2 | h2 <;> rw [h2] <;> exact h4
/-- a for whose body may leave the def -/
inductive Stp (S : Type) where
  | go (s : S) | out (o : Out)
def Stp.o (emb : S → Ev) : Stp S → Out
  | .go s => .nx (emb s)
  | .out o => o
def compF (test : S → ι → Bool) (val : S → ι → D) (next : S → ι → S) : List ι → S → List D × S
  | [], s => ([], s)
  | x :: xs, s => let r := compF test val next xs (next s x); (if test s x = true then val s x :: r.1 else r.1, r.2)
theorem compL_eq {Γ0 : Ev} {t : Ev → Rs Bool} {fe : Ev → Rs D} (emb : S → Ev) (e : ι → D) (test : S → ι → Bool) (val : S → ι → D) (next : S → ι → S) (I : List ι → S → Prop)
    (h : ∀ x xs s, I (x :: xs) s → (∃ Γ1 Γ2, g (e x) (emb s) = some Γ1 ∧ t Γ1 = .ok (test s x) Γ2 ∧ (test s x = true → ∃ Γ3, fe Γ2 = .ok (val s x) Γ3 ∧ anchor Γ0 Γ3 = emb (next s x)) ∧ (test s x = false → anchor Γ0 Γ2 = emb (next s x))) ∧ I xs (next s x)) :
    ∀ (xs : List ι) (s : S) (acc : List D), I xs s → acc.length + xs.length ≤ sizeLine → compL Γ0 g t fe (xs.map e) acc (emb s) = some (acc ++ (compF test val next xs s).1, emb (compF test val next xs s).2)
  | [], s, acc, _, _ => by simp [compL, compF]
  | x :: xs, s, acc, hI, hl => by
    obtain ⟨⟨Γ1, Γ2, h1, h2, h3, h4⟩, h5⟩ := h x xs s hI
    rw [List.length_cons] at hl
    rw [List.map_cons, compL, h1]
    dsimp only
    rw [h2]
    cases ht : test s x with
    | true =>
      obtain ⟨Γ3, h6, h7⟩ := h3 ht
      dsimp only
      rw [h6]
      dsimp only
      rw [if_pos (by omega), h7, compL_eq emb e test val next I h xs (next s x) (acc ++ [val s x]) h5 (by rw [List.length_append, List.length_singleton]; omega)]
      simp [compF, ht]
    | false =>
      dsimp only
      rw [h4 ht, compL_eq emb e test val next I h xs (next s x) acc h5 (by omega)]
      simp [compF, ht]
/-- .. that hangs on no state -/
theorem compL_mf {Γ0 Γ : Ev} {t : Ev → Rs Bool} {fe : Ev → Rs D} (e : ι → D) (test : ι → Bool) (val : ι → D) (P : ι → Prop)
    (h : ∀ x, P x → ∃ Γ1 Γ2, g (e x) Γ = some Γ1 ∧ t Γ1 = .ok (test x) Γ2 ∧ (test x = true → ∃ Γ3, fe Γ2 = .ok (val x) Γ3 ∧ anchor Γ0 Γ3 = Γ) ∧ (test x = false → anchor Γ0 Γ2 = Γ)) :
    ∀ (xs : List ι), (∀ x ∈ xs, P x) → xs.length ≤ sizeLine → compL Γ0 g t fe (xs.map e) [] Γ = some ((xs.filter test).map val, Γ) := fun xs hP hl => by
  have q := compL_eq (S := Unit) (Γ0 := Γ0) (g := g) (t := t) (fe := fe) (fun _ => Γ) e (fun _ x => test x) (fun _ x => val x) (fun _ _ => ()) (fun l _ => ∀ x ∈ l, P x)
    (fun x xs s hI => ⟨h x (hI x List.mem_cons_self), fun y hy => hI y (List.mem_cons_of_mem _ hy)⟩) xs () [] hP (by simpa using hl)
  have e2 : ∀ l : List ι, (compF (fun (_ : Unit) x => test x) (fun _ x => val x) (fun _ _ => ()) l ()).1 = (l.filter test).map val := by
    intro l
    induction l with
    | nil => rfl
    | cons a l ih =>
      rw [compF]
      dsimp only
      rw [ih]
      cases ht : test a with
      | true => simp [ht]
      | false => simp [ht]
  rw [q, e2]
  simp
end
theorem whileS_succ {t : Ev → Rs Bool} {f : Ev → Out} {n : Nat} {Γ : Ev} : whileS t f (n + 1) Γ = (t Γ).out fun b Γ => if b = true then (match f Γ with
    | .nx Γ => whileS t f n Γ
    | .ct Γ => whileS t f n Γ
    | .bk Γ => .nx Γ
    | o => o) else .nx Γ := rfl
theorem whileS_inv {S : Type} {t : Ev → Rs Bool} {f : Ev → Out} (emb : S → Ev) (μ : S → Nat) (I : S → Prop) (E : Out → Prop)
    (h : ∀ s, I s → (t (emb s) = .ok false (emb s) ∧ E (.nx (emb s))) ∨ (t (emb s) = .ok true (emb s) ∧ ((∃ s', f (emb s) = .nx (emb s') ∧ I s' ∧ μ s' < μ s) ∨ (∃ av Γ, f (emb s) = .rt av Γ ∧ E (.rt av Γ)) ∨ ∃ Γ, f (emb s) = .bk Γ ∧ E (.nx Γ)))) :
    ∀ (n : Nat) (s : S), I s → μ s < n → E (whileS t f n (emb s))
  | 0, s, _, hn => absurd hn (Nat.not_lt_zero _)
  | n + 1, s, hI, hn => by
    have go : t (emb s) = .ok true (emb s) → whileS t f (n + 1) (emb s) = (match f (emb s) with
      | .nx Γ => whileS t f n Γ
      | .ct Γ => whileS t f n Γ
      | .bk Γ => .nx Γ
      | o => o) := fun h1 => by rw [whileS_succ, h1]; rfl
    rcases h s hI with ⟨h1, h2⟩ | ⟨h1, ⟨s', h2, h3, h4⟩ | ⟨av, Γ, h2, h3⟩ | ⟨Γ, h2, h3⟩⟩
    · rw [whileS_succ, h1]
      exact h2
    · rw [go h1, h2]
      exact whileS_inv emb μ I E h n s' h3 (by omega)
    · rw [go h1, h2]
      exact h3
    · rw [go h1, h2]
      exact h3
end Nv
-- N20
namespace Nv
open PySem PySem.Spec PyProof.Rows L2
abbrev Tx := List Nat
abbrev tD (l : Tx) : D := .str (SX.S l)
abbrev cD (c : Nat) : D := .str (SX.S [c])
section
variable {l a b : Tx} {i j c : Nat}
theorem S_length : (SX.S l).length = l.length := SX.S_len l
theorem S_app : SX.S a ++ SX.S b = SX.S (a ++ b) := SX.S_cat a b
theorem sIx_n {n d k : Nat} : HT.sIx n d (some (k : Int)) = min k n := HT.sIx_nat n d k
theorem drop_min {α : Type} {l : List α} {i : Nat} : l.drop (min i l.length) = l.drop i := by
  by_cases h : i ≤ l.length
  · rw [Nat.min_eq_left h]
  · rw [Nat.min_eq_right (by omega), List.drop_eq_nil_of_le (Nat.le_refl _), List.drop_eq_nil_of_le (by omega)]
theorem cutL_nn {α : Type} {l : List α} : cutL l (some (i : Int)) (some (j : Int)) = (l.drop i).take (j - i) := by
  unfold cutL
  rw [sIx_n, sIx_n, drop_min]
  by_cases h : i ≤ l.length
  · rw [Nat.min_eq_left h]
    by_cases h2 : j ≤ l.length
    · rw [Nat.min_eq_left h2]
    · rw [Nat.min_eq_right (by omega), List.take_of_length_le (by rw [List.length_drop]; omega), List.take_of_length_le (by rw [List.length_drop]; omega)]
  · rw [List.drop_eq_nil_of_le (by omega), List.take_nil, List.take_nil]
theorem cutL_0n {α : Type} {l : List α} : cutL l none (some (j : Int)) = l.take j := by
  unfold cutL
  rw [sIx_n, HT.sIx_none, List.drop_zero, Nat.sub_zero]
  by_cases h2 : j ≤ l.length
  · rw [Nat.min_eq_left h2]
  · rw [Nat.min_eq_right (by omega), List.take_of_length_le (Nat.le_refl _), List.take_of_length_le (by omega)]
theorem cutL_n0 {α : Type} {l : List α} : cutL l (some (i : Int)) none = l.drop i := by
  unfold cutL
  rw [sIx_n, HT.sIx_none, drop_min]
  by_cases h : i ≤ l.length
  · rw [Nat.min_eq_left h, List.take_of_length_le (by rw [List.length_drop]; omega)]
  · rw [List.drop_eq_nil_of_le (by omega), List.take_nil]
theorem cutS_S {lo hi : Option Int} : cutS (SX.S l) lo hi = SX.S (cutL l lo hi) := by
  unfold cutS cutL
  rw [S_length]
theorem len_S : gLen (tD l) = if l.length ≤ sizeLine then some (.dat (.int (l.length : Nat))) else none := by
  show (if (SX.S l).length ≤ sizeLine then some (AV.dat (D.int (SX.S l).length)) else none) = _
  rw [S_length]
theorem sl_S {lo hi : Option Int} : gSl lo hi (tD l) = if l.length ≤ sizeLine then some (.dat (tD (cutL l lo hi))) else none := by
  show (if (SX.S l).length ≤ sizeLine then some (AV.dat (D.str (cutS (SX.S l) lo hi))) else none) = _
  rw [S_length, cutS_S]
theorem ix_S {x : Int} : gIx (tD l) (.int x) = if l.length ≤ sizeLine then (atI l x).map fun c => .dat (cD c) else none := by
  show (if (SX.S l).length ≤ sizeLine then (atI (SX.S l).cps.toList x).map (fun c => AV.dat (D.str ⟨#[c]⟩)) else none) = _
  rw [S_length]
theorem ad_S : gAdd (tD a) (tD b) = if a.length + b.length ≤ sizeLine then some (.dat (tD (a ++ b))) else none := by
  rw [add_str, S_length, S_length, S_app]
theorem chD_S : chD (SX.S l) = l.map cD := rfl
theorem eq_S : D.eq (tD a) (tD b) = decide (a = b) := by
  show (SX.S a == SX.S b) = _
  exact SX.S_beq_eq
theorem eq_int {x y : Int} : D.eq (.int x) (.int y) = decide (x = y) := by
  show (x == y) = _
  exact Bool.beq_eq_decide_eq x y
theorem eq_bl {x y : Bool} : D.eq (.bl x) (.bl y) = decide (x = y) := by
  show (x == y) = _
  cases x <;> cases y <;> rfl
theorem eq_tup {x y : List D} : D.eq (.tup x) (.tup y) = PyData.eqvAll (D.pys x) (D.pys y) := rfl
theorem eqa_nil : PyData.eqvAll (D.pys []) (D.pys []) = true := rfl
theorem eqa_cons {x y : D} {xs ys : List D} : PyData.eqvAll (D.pys (x :: xs)) (D.pys (y :: ys)) = (D.eq x y && PyData.eqvAll (D.pys xs) (D.pys ys)) := rfl
/-- data of one depth: its items by f, all of the depth n -/
theorem eqds_map {α : Type} {f : α → D} {n : Nat} (h : ∀ x, (f x).eqd = some n) : ∀ l : List α, D.eqds (l.map f) = some (if l.isEmpty = true then 0 else n)
  | [] => rfl
  | [x] => by
    rw [List.map_cons, D.eqds, h x]
    show some (max n 0) = some n
    rw [Nat.max_zero]
  | x :: y :: l => by
    rw [List.map_cons, D.eqds, h x, eqds_map h (y :: l)]
    show some (max n n) = some n
    rw [Nat.max_self]
theorem gEq_S : gEq (tD a) (tD b) = some (.dat (.bl (decide (a = b)))) := by
  show (if (true && true) = true then some (AV.dat (D.bl (D.eq (tD a) (tD b)))) else none) = _
  rw [eq_S]
  rfl
theorem gNe_S : gNe (tD a) (tD b) = some (.dat (.bl (decide (a ≠ b)))) := by
  show (if (true && true) = true then some (AV.dat (D.bl (!D.eq (tD a) (tD b)))) else none) = _
  rw [eq_S, ← decide_not]
  rfl
theorem gEq_int {x y : Int} : gEq (.int x) (.int y) = some (.dat (.bl (decide (x = y)))) := by
  show (if (true && true) = true then some (AV.dat (D.bl (D.eq (.int x) (.int y)))) else none) = _
  rw [eq_int]
  rfl
theorem gNe_int {x y : Int} : gNe (.int x) (.int y) = some (.dat (.bl (decide (x ≠ y)))) := by
  show (if (true && true) = true then some (AV.dat (D.bl (!D.eq (.int x) (.int y)))) else none) = _
  rw [eq_int, ← decide_not]
  rfl
theorem gEq_bl {x y : Bool} : gEq (.bl x) (.bl y) = some (.dat (.bl (decide (x = y)))) := by
  show (if (true && true) = true then some (AV.dat (D.bl (D.eq (.bl x) (.bl y)))) else none) = _
  rw [eq_bl]
  rfl
theorem gNe_bl {x y : Bool} : gNe (.bl x) (.bl y) = some (.dat (.bl (decide (x ≠ y)))) := by
  show (if (true && true) = true then some (AV.dat (D.bl (!D.eq (.bl x) (.bl y)))) else none) = _
  rw [eq_bl, ← decide_not]
  rfl
theorem strsO_map : ∀ l : List Tx, strsO (l.map tD) = some (l.map SX.S)
  | [] => rfl
  | x :: l => by
    rw [List.map_cons, strsO, strsO_map l]
    rfl
theorem ofs_empty : Str.ofString "" = SX.S [] := rfl
/-- a sign in a text -/
theorem gIn_S : gIn (cD c) (tD l) = some (.dat (.bl (decide (c ∈ l)))) := rfl
theorem gNin_S : gNin (cD c) (tD l) = some (.dat (.bl (!decide (c ∈ l)))) := rfl
theorem len_lst {x : List D} : gLen (.lst x) = some (.dat (.int (x.length : Nat))) := rfl
theorem len_tup {x : List D} : gLen (.tup x) = some (.dat (.int (x.length : Nat))) := rfl
theorem len_fz {x : List D} : gLen (.fz x) = some (.dat (.int (x.length : Nat))) := rfl
end
section
variable {l : List D} {lo hi : Option Int}
theorem sl_lst : gSl lo hi (.lst l) = some (.own (.lst (cutL l lo hi))) := rfl
theorem sl_fz : gSl lo hi (.fz l) = some (.own (.lst (cutL l lo hi))) := rfl
theorem sl_tup : gSl lo hi (.tup l) = some (.dat (.tup (cutL l lo hi))) := rfl
end
end Nv
-- N21
namespace Nv
open PySem PySem.Spec PyProof.Rows L2
section
variable {κ ν : Type} [DecidableEq κ]
def aput (l : List (κ × ν)) (k : κ) (v : ν) : List (κ × ν) := if (l.any fun p => decide (p.1 = k)) = true then l.map (fun p => if p.1 = k then (p.1, v) else p) else l ++ [(k, v)]
def alook : List (κ × ν) → κ → Option ν
  | [], _ => none
  | p :: l, k => if p.1 = k then some p.2 else alook l k
def pD (kd : κ → D) (vd : ν → D) (p : κ × ν) : D × D := (kd p.1, vd p.2)
variable {kd : κ → D} {vd : ν → D}
theorem any_map (hk : ∀ a b, (kd a).eq (kd b) = decide (a = b)) (k : κ) : ∀ l : List (κ × ν), ((l.map (pD kd vd)).any fun p => p.1.eq (kd k)) = l.any fun p => decide (p.1 = k)
  | [] => rfl
  | p :: l => by
    rw [List.map_cons, List.any_cons, List.any_cons, any_map hk k l]
    show ((kd p.1).eq (kd k) || _) = _
    rw [hk]
end
/-- a place -/
abbrev Pl := Nat × Nat
section
variable {ν : Type} {vd : ν → D} {l : List (Pl × ν)} {p : Pl} {v : ν}
end
end Nv
-- N22
namespace Nv
open PySem PySem.Spec PyProof.Rows L2
theorem sl_eq : sizeLine = 16777216 := by decide
section
variable {a b : Nat} {i j : Int}
theorem nlt_t (h : a < b) : (a < b) = True := eq_true h
theorem nlt_f (h : ¬ a < b) : (a < b) = False := eq_false h
theorem nle_t (h : a ≤ b) : (a ≤ b) = True := eq_true h
theorem nle_f (h : ¬ a ≤ b) : (a ≤ b) = False := eq_false h
theorem neq_t (h : a = b) : (a = b) = True := eq_true h
theorem neq_f (h : ¬ a = b) : (a = b) = False := eq_false h
theorem ilt_t (h : i < j) : (i < j) = True := eq_true h
theorem ilt_f (h : ¬ i < j) : (i < j) = False := eq_false h
theorem ile_t (h : i ≤ j) : (i ≤ j) = True := eq_true h
theorem ile_f (h : ¬ i ≤ j) : (i ≤ j) = False := eq_false h
theorem ieq_t (h : i = j) : (i = j) = True := eq_true h
theorem ieq_f (h : ¬ i = j) : (i = j) = False := eq_false h
theorem rng_t (h1 : -4611686018427387904 ≤ i) (h2 : i < 4611686018427387904) : rngOk i = true := decide_eq_true ⟨by show -(2 ^ 62) ≤ i; omega, by show i < 2 ^ 62; omega⟩
theorem mul_l (h1 : -18446744073709551616 < i) (h2 : i < 18446744073709551616) : mulOk i j = true := mulOk_l (by omega) (by omega)
theorem mul_r (h1 : -18446744073709551616 < j) (h2 : j < 18446744073709551616) : mulOk i j = true := mulOk_r (by omega) (by omega)
theorem atI_n {α : Type} {l : List α} (h : 0 ≤ i) : atI l i = l[i.toNat]? := by
  unfold atI ixN
  rw [if_pos h]
  by_cases z : i < (l.length : Nat)
  · rw [if_pos z]; rfl
  · rw [if_neg z, List.getElem?_eq_none (by omega)]; rfl
theorem cut_ii {α : Type} {l : List α} (h1 : 0 ≤ i) (h2 : 0 ≤ j) : cutL l (some i) (some j) = (l.drop i.toNat).take (j.toNat - i.toNat) := by
  obtain ⟨m, rfl⟩ := Int.eq_ofNat_of_zero_le h1
  obtain ⟨n, rfl⟩ := Int.eq_ofNat_of_zero_le h2
  exact cutL_nn
theorem cut_0i {α : Type} {l : List α} (h2 : 0 ≤ j) : cutL l none (some j) = l.take j.toNat := by
  obtain ⟨n, rfl⟩ := Int.eq_ofNat_of_zero_le h2
  exact cutL_0n
theorem cut_i0 {α : Type} {l : List α} (h1 : 0 ≤ i) : cutL l (some i) none = l.drop i.toNat := by
  obtain ⟨m, rfl⟩ := Int.eq_ofNat_of_zero_le h1
  exact cutL_n0
theorem toNat_add (h1 : 0 ≤ i) (h2 : 0 ≤ j) : (i + j).toNat = i.toNat + j.toNat := Int.toNat_add h1 h2
end
theorem revS_S {l : Tx} : revS (SX.S l) = SX.S l.reverse := rfl
end Nv
-- N23
namespace Nv
open PySem PySem.Spec PyProof.Rows L2
section
variable {elt t0 i0 t1 i1 : Expr} {ifs0 ifs1 : List Expr} {gens : List Comprehension} {scope : Scope} {pos : Pos} {i : Nat}
theorem turn_mid (h : gens[i]? = some ⟨t0, i0, ifs0, 0⟩) (h2 : gens[i + 1]? = some ⟨t1, i1, ifs1, 0⟩) (it acc : Value) (env : Env) :
    compTurn (.ListComp elt gens scope pos) i it acc env = (do
      standAt i0.pos
      match ← pyNext it with
      | none => pure (.done .next)
      | some v =>
        letOwnedTupleGo t0 it v
        assign t0 env v
        let mut ok := true
        for c in ifs0 do
          if ok then ok ← isTrue c env (eval c env)
        if ok then
          let x ← eval i1 env
          standAt i1.pos
          let x ← foldedSetIterable i1 env x
          let _ ← runOwn (.compStart (.ListComp elt gens scope pos) (i + 1) (← holding [x] (pyIter x)) acc env) env
        again (.compLoop (.ListComp elt gens scope pos) i it acc env)) := by
  unfold compTurn
  simp only [h, h2]
  rfl
theorem turn_last (h : gens[i]? = some ⟨t0, i0, ifs0, 0⟩) (h2 : gens[i + 1]? = none) (it acc : Value) (env : Env) :
    compTurn (.ListComp elt gens scope pos) i it acc env = (do
      standAt i0.pos
      match ← pyNext it with
      | none => pure (.done .next)
      | some v =>
        letOwnedTupleGo t0 it v
        assign t0 env v
        let mut ok := true
        for c in ifs0 do
          if ok then ok ← isTrue c env (eval c env)
        if ok then
          (do let _ ← call (.builtin "list.append") [acc, ← eval elt env])
        again (.compLoop (.ListComp elt gens scope pos) i it acc env)) := by
  unfold compTurn
  simp only [h, h2]
  rfl
variable {prog : Program} {w : World} {A : Around} {R : Result → Shared → Prop} {s : Shared} {it acc : Value} {env : Env}
/-- a clause's loop with another one behind it -/
theorem loop_mid (h : gens[i]? = some ⟨t0, i0, ifs0, 0⟩) (h2 : gens[i + 1]? = some ⟨t1, i1, ifs1, 0⟩) (hs : ∀ x, foldedSetIterable i1 env x = pure x) (I : Nat → Shared → Prop)
    (turn : ∀ n s, I n s → wpAny (model prog w) A (pyNext it) (fun r s₁ => match r with
      | none => R (.ok .next) s₁
      | some v => wpAny (model prog w) A (letOwnedTupleGo t0 it v) (fun _ s₁' => wpAny (model prog w) A (assign t0 env v) (fun _ s₂ =>
          wpAny (model prog w) A (forIn ifs0 true fun c r => if r = true then do let ok ← isTrue c env (eval c env); pure (ForInStep.yield ok) else pure (ForInStep.yield r)) (fun ok s₃ =>
            if ok = true then wpAny (model prog w) A (eval i1 env) (fun x s₄ => wpAny (model prog w) A (pyIter x) (fun it1 s₅ =>
              codeAny (model prog w) A (.compStart (.ListComp elt gens scope pos) (i + 1) it1 acc env) (fun r s' => match r with
                | .ok _ => ∃ m, m < n ∧ I m s'
                | .error _ => False) s₅) (notedBy (model prog w) A env fun e s' => R (.error e) s') s₄) (notedBy (model prog w) A env fun e s' => R (.error e) s') s₃
            else ∃ m, m < n ∧ I m s₃) (notedBy (model prog w) A env fun e s' => R (.error e) s') s₂) (notedBy (model prog w) A env fun e s' => R (.error e) s') s₁') (notedBy (model prog w) A env fun e s' => R (.error e) s') s₁) (notedBy (model prog w) A env fun e s' => R (.error e) s') s)
    (n : Nat) (hI : I n s) :
    codeAny (model prog w) A (.compLoop (.ListComp elt gens scope pos) i it acc env) R s := by
  refine codeAny_loop rfl I (fun n s hI => ?_) n hI
  show wpAny _ A ((compTurn (.ListComp elt gens scope pos) i it acc env).onRaise (fun x => do noteFrame x env; theTreesLotGoes x)) _ _ s
  refine wpAny_noted ?_
  rw [turn_mid h h2]
  refine wpAny_bind (wpAny_standAt (wpAny_bind (wpAny_mono (turn n s hI) (fun r s₁ h₁ => ?_) fun _ _ h' => h')))
  cases r with
  | none => exact wpAny_pure h₁
  | some v =>
    refine wpAny_bind (wpAny_mono h₁ (fun _ s₁' h₁' => ?_) fun _ _ h' => h')
    refine wpAny_bind (wpAny_mono h₁' (fun _ s₂ h₂ => wpAny_bind (wpAny_mono h₂ (fun ok s₃ h₃ => ?_) fun _ _ h' => h')) fun _ _ h' => h')
    cases ok with
    | false => exact wpAny_pure ⟨rfl, h₃⟩
    | true =>
      refine wpAny_bind (wpAny_mono h₃ (fun x s₄ h₄ => ?_) fun _ _ h' => h')
      refine wpAny_bind (wpAny_standAt (wpAny_bind (wpAny_of_eq (hs x) (wpAny_bind (wpAny_holding (wpAny_mono h₄ (fun it1 s₅ h₅ => ?_) fun _ _ h' => h'))))))
      refine wpAny_bind (wpAny_runOwn ?_)
      rw [Around.mark_none]
      refine codeAny_mono h₅ fun r s' hr => ?_
      cases r with
      | ok f =>
        first
          | exact wpAny_pure ⟨rfl, hr⟩
          | exact wpAny_bind (wpAny_pure (wpAny_pure ⟨rfl, hr⟩))
      | error e => exact hr.elim
/-- the last clause's loop -/
theorem loop_last (h : gens[i]? = some ⟨t0, i0, ifs0, 0⟩) (h2 : gens[i + 1]? = none) (I : Nat → Shared → Prop)
    (turn : ∀ n s, I n s → wpAny (model prog w) A (pyNext it) (fun r s₁ => match r with
      | none => R (.ok .next) s₁
      | some v => wpAny (model prog w) A (letOwnedTupleGo t0 it v) (fun _ s₁' => wpAny (model prog w) A (assign t0 env v) (fun _ s₂ =>
          wpAny (model prog w) A (forIn ifs0 true fun c r => if r = true then do let ok ← isTrue c env (eval c env); pure (ForInStep.yield ok) else pure (ForInStep.yield r)) (fun ok s₃ =>
            if ok = true then wpAny (model prog w) A (eval elt env) (fun x s₄ =>
              wpAny (model prog w) A (call (.builtin "list.append") [acc, x]) (fun _ s₅ => ∃ m, m < n ∧ I m s₅) (notedBy (model prog w) A env fun e s' => R (.error e) s') s₄) (notedBy (model prog w) A env fun e s' => R (.error e) s') s₃
            else ∃ m, m < n ∧ I m s₃) (notedBy (model prog w) A env fun e s' => R (.error e) s') s₂) (notedBy (model prog w) A env fun e s' => R (.error e) s') s₁') (notedBy (model prog w) A env fun e s' => R (.error e) s') s₁) (notedBy (model prog w) A env fun e s' => R (.error e) s') s)
    (n : Nat) (hI : I n s) :
    codeAny (model prog w) A (.compLoop (.ListComp elt gens scope pos) i it acc env) R s := by
  refine codeAny_loop rfl I (fun n s hI => ?_) n hI
  show wpAny _ A ((compTurn (.ListComp elt gens scope pos) i it acc env).onRaise (fun x => do noteFrame x env; theTreesLotGoes x)) _ _ s
  refine wpAny_noted ?_
  rw [turn_last h h2]
  refine wpAny_bind (wpAny_standAt (wpAny_bind (wpAny_mono (turn n s hI) (fun r s₁ h₁ => ?_) fun _ _ h' => h')))
  cases r with
  | none => exact wpAny_pure h₁
  | some v =>
    refine wpAny_bind (wpAny_mono h₁ (fun _ s₁' h₁' => ?_) fun _ _ h' => h')
    refine wpAny_bind (wpAny_mono h₁' (fun _ s₂ h₂ => wpAny_bind (wpAny_mono h₂ (fun ok s₃ h₃ => ?_) fun _ _ h' => h')) fun _ _ h' => h')
    cases ok with
    | false => exact wpAny_pure ⟨rfl, h₃⟩
    | true =>
      exact wpAny_bind (wpAny_bind (wpAny_mono h₃ (fun x s₄ h₄ => wpAny_bind (wpAny_mono h₄ (fun _ s₅ h₅ => wpAny_pure (wpAny_pure ⟨rfl, h₅⟩)) fun _ _ h' => h')) fun _ _ h' => h'))
/-- a clause's start -/
theorem start_ok (h : gens[i]? = some ⟨t0, i0, ifs0, 0⟩) (h0 : codeAny (model prog w) A (.compLoop (.ListComp elt gens scope pos) i it acc env) R s)
    (h1 : wpAny (model prog w) A (pyIter it) (fun it' s' => codeAny (model prog w) A (.compLoop (.ListComp elt gens scope pos) i it' acc env) R s')
      (notedBy (model prog w) A env fun x s' => R (.error x) s') s) :
    codeAny (model prog w) A (.compStart (.ListComp elt gens scope pos) i it acc env) R s := by
  refine codeAny_of_tree ?_
  show wpAny _ _ ((compStart (.ListComp elt gens scope pos) i it acc env).onRaise (fun x => do noteFrame x env; standAt theWindowsPlace)) _ _ s
  refine wpAny_notedAt ?_
  have hcl : (clausesOf (.ListComp elt gens scope pos))[i]? = some ⟨t0, i0, ifs0, 0⟩ := h
  unfold compStart
  simp only [hcl]
  show wpAny _ _ (ask >>= _) _ _ s
  refine wpAny_bind (wpAny_askSetting (wpAny_ite ?_))
  split
  · first
      | exact wpAny_bind (wpAny_pure (wpAny_pure (And.intro rfl h0)))
      | exact wpAny_pure (And.intro rfl h0)
  · first
      | exact wpAny_bind (wpAny_rule (wpAny_bind (wpAny_standAt (wpAny_bind (wpAny_mono h1 (fun it' s' h' => wpAny_pure (And.intro rfl h')) fun _ _ x => x)))))
      | (refine wpAny_bind (wpAny_rule ?_); show wpAny _ _ (standAt i0.pos >>= _) _ _ s; exact wpAny_bind (wpAny_standAt (wpAny_bind (wpAny_mono h1 (fun it' s' h' => wpAny_pure (And.intro rfl h')) fun _ _ x => x))))
end
end Nv
-- N24
namespace Nv
open PySem PySem.Spec PyProof.Rows L2
/-- a clause behind the first one, by its readings; the names of its target -/
structure Cl where
  wi : TI
  g : TG
  tt : TT
  vs : List Nat
/-- what the inner clauses and the item are to do; D the new list -/
def tBody (te : TE) (D : Addr) : List Cl → L2.St → Hp → (Hp → Prop) → Prop
  | [] => fun σ H Nx => te σ H fun y H' => ∃ acc, H' D = some (.lst acc) ∧ acc.length < sizeLine ∧ Nx (upd H' D (.lst (acc ++ [y])))
  | c :: cs => fun σ H Nx => c.wi σ H fun J H1 => ∃ W : Nat → Nat → Hp → Prop, (∃ m, W 0 m H1) ∧ ∀ j k H, W j k H →
      (J.stop j H ∧ Nx H) ∨ (J.go j H ∧ ∃ Nx1 : Hp → Prop, (∀ H', Nx1 H' → ∃ k', k' < k ∧ W (j + 1) k' H') ∧ ∀ x H', J.yld j H x H' → c.g x (L2.wipe σ c.vs) H' fun σ3 H5 => L2.wipe σ3 c.vs = L2.wipe σ c.vs ∧ c.tt σ3 H5 fun b H6 =>
        if b = true then tBody te D cs σ3 H6 Nx1 else Nx1 H6)
inductive CJs (Y : Cx) : List Nat → List Comprehension → List Cl → Prop where
  | nil {all : List Nat} : CJs Y all [] []
  | cons {all : List Nat} {tg iter : Expr} {ifs : List Expr} {c : Cl} {gs : List Comprehension} {cs : List Cl} (hi : PI Y tg iter c.wi) (hg : PG Y tg c.g) (ht : PTs Y ifs c.tt) (hv : ∀ j ∈ c.vs, j ∈ all)
      (hs : ∀ x, foldedSetIterable iter Y.env x = pure x) (r : CJs Y c.vs gs cs) : CJs Y all (⟨tg, iter, ifs, 0⟩ :: gs) (c :: cs)
/-- a clause's loop: from the slots τ; Nx is reached at its end -/
theorem comp_loop {Y : Cx} (hc : Y.calm = true) (hx : Y.xe = fun _ _ => False) {elt : Expr} {gens : List Comprehension} {scope : Scope} {pos : Pos} {te : TE} (pe : PE Y elt te) (D : Addr) :
    ∀ (cs : List Cl) (i : Nat) (tg iter : Expr) (ifs : List Expr) (g : TG) (tt : TT) (vs : List Nat), gens[i]? = some ⟨tg, iter, ifs, 0⟩ → CJs Y vs (gens.drop (i + 1)) cs → PG Y tg g → PTs Y ifs tt →
    ∀ (pins : List (Addr × Obj)) (τ : L2.St) (it : Addr) (fp : List Addr) (tn : Nat → Heap → Prop) (J : It) (T : Turn Y.prog Y.w Y.K tg J fp it tn) (W : Nat → Nat → Hp → Prop) (Nx : Hp → Prop) (R : Result → Shared → Prop)
      (turn : ∀ j k H, W j k H → (J.stop j H ∧ Nx H) ∨ (J.go j H ∧ ∃ Nx1 : Hp → Prop, (∀ H', Nx1 H' → ∃ k', k' < k ∧ W (j + 1) k' H') ∧ ∀ x H', J.yld j H x H' → g x τ H' fun σ3 H5 => L2.wipe σ3 vs = τ ∧ tt σ3 H5 fun b H6 =>
        if b = true then tBody te D cs σ3 H6 Nx1 else Nx1 H6))
      (fpok : ∀ {σ' : L2.St} {H' : Hp} {s' : Shared}, Inv Y pins σ' H' s' → (∀ b ∈ fp, H' b = none) → ∀ b ∈ fp, FpOk Y pins H' b)
      (hR : ∀ s' H', Inv Y pins τ H' s' → Nx H' → R (.ok .next) s')
      (m0 : Nat) (s : Shared) (H : Hp), Inv Y pins τ H s → tn 0 s.heap → (∀ b ∈ fp, H b = none) → W 0 m0 H →
    codeAny (model Y.prog Y.w) Y.A (.compLoop (.ListComp elt gens scope pos) i (.ref it) (.ref D) Y.env) R s
  | [], i, tg, iter, ifs, g, tt, vs, hi, hcs, pg, pt, pins, τ, it, fp, tn, J, T, W, Nx, R, turn, fpok, hR, m0, s, H, I, st, nfp, w0 => by
    have h2 : gens[i + 1]? = none := by
      generalize hd : gens.drop (i + 1) = r at hcs
      cases hcs
      exact List.getElem?_eq_none (List.drop_eq_nil_iff.mp hd)
    refine loop_last hi h2 (fun n s' => ∃ j H', Inv Y pins τ H' s' ∧ tn j s'.heap ∧ (∀ b ∈ fp, H' b = none) ∧ W j n H') ?_ m0 ⟨0, H, I, st, nfp, w0⟩
    rintro k s12 ⟨j, H12, I12, st12, n12, w12⟩
    rcases turn j k H12 w12 with ⟨stop1, nx1⟩ | ⟨go1, Nx1, hNx1, step1⟩
    · refine thnF (T.done Y rfl rfl rfl hc j _ s12 τ H12 (fun _ _ => False) I12 (fpok I12 n12) st12 stop1) fun r s13 ⟨hr, I13⟩ => ?_
      subst hr
      exact hR s13 H12 I13 nx1
    · refine thnF (T.item Y rfl rfl rfl hc j _ s12 τ H12 (fun _ _ => False) I12 (fpok I12 n12) st12 go1) fun r s13 ⟨u1, hr, h13⟩ => ?_
      subst hr
      refine thnF h13 fun _ s14 ⟨x1, H14, I14, r14, y14, st14, n14⟩ => ?_
      have I14' := I14.pinned (fpok I14 n14) (T.obj _ _ st14)
      have pgr := pg.run _ s14 τ H14 x1 u1 _ I14' r14 (step1 x1 H14 y14)
      rw [hx] at pgr
      refine thnF pgr fun _ s15 ⟨σ15, H15, I15, hw15, q15⟩ => ?_
      have ptr := pt.run _ s15 σ15 H15 _ I15 q15
      rw [hx] at ptr
      refine thnF ptr fun b1 s16 ⟨H16, I16, q16⟩ => ?_
      have fin1 : ∀ {s' : Shared} {H' : Hp}, Inv Y (pins ++ pinsAt fp s14.heap) σ15 H' s' → Nx1 H' → ∃ m, m < k ∧ ∃ j H', Inv Y pins τ H' s' ∧ tn j s'.heap ∧ (∀ b ∈ fp, H' b = none) ∧ W j m H' := fun {s' H'} I' nx => by
        obtain ⟨m', hm, w'⟩ := hNx1 H' nx
        have pin' : ∀ b ∈ fp, ∀ o, s14.heap.get? b = some o → s'.heap.get? b = some o ∧ H' b = none := fun b hb o e =>
          let z := I'.pin (b, o) (List.mem_append_right _ (List.mem_append_right _ (mem_pinsAt hb e)))
          ⟨z.1, z.2.1⟩
        refine ⟨m', hm, j + 1, H', I'.unpinned.weak (by rw [← hw15, wipe_length]) (fun j v e => by rw [← hw15] at e; exact (wipe_some e).1), T.keep _ _ _ st14 fun b hb o e => (pin' b hb o e).1, fun b hb => ?_, w'⟩
        obtain ⟨o, e, _⟩ := T.obj _ _ st14 b hb
        exact (pin' b hb o e).2
      cases b1 with
      | false =>
        simp only [Bool.false_eq_true, if_false] at q16 ⊢
        exact fin1 I16 q16
      | true =>
        simp only [if_true] at q16 ⊢
        have per := pe.run _ s16 σ15 H16 _ I16 q16
        rw [hx] at per
        refine thnF per fun z s17 ⟨yv, H17, I17, r17, acc, hD17, hz17, nx⟩ => ?_
        exact app_ok (X := Y) I17 hD17 hz17 r17 fun s18 I18 => fin1 I18 nx
  | c :: cs, i, tg, iter, ifs, g, tt, vs, hi, hcs, pg, pt, pins, τ, it, fp, tn, J, T, W, Nx, R, turn, fpok, hR, m0, s, H, I, st, nfp, w0 => by
    generalize hd : gens.drop (i + 1) = r at hcs
    cases hcs with
    | @cons _ tg1 iter1 ifs1 _ gs _ hi1 hg1 ht1 hv1 hs1 rest =>
    have h2 : gens[i + 1]? = some ⟨tg1, iter1, ifs1, 0⟩ := by
      have := congrArg (fun l => l[0]?) hd
      simpa using this
    have hd2 : gens.drop (i + 1 + 1) = gs := by
      have := congrArg (List.drop 1) hd
      rw [List.drop_drop] at this
      simpa using this
    rw [← hd2] at rest
    refine loop_mid hi h2 hs1 (fun n s' => ∃ j H', Inv Y pins τ H' s' ∧ tn j s'.heap ∧ (∀ b ∈ fp, H' b = none) ∧ W j n H') ?_ m0 ⟨0, H, I, st, nfp, w0⟩
    rintro k s12 ⟨j, H12, I12, st12, n12, w12⟩
    rcases turn j k H12 w12 with ⟨stop1, nx1⟩ | ⟨go1, Nx1, hNx1, step1⟩
    · refine thnF (T.done Y rfl rfl rfl hc j _ s12 τ H12 (fun _ _ => False) I12 (fpok I12 n12) st12 stop1) fun r s13 ⟨hr, I13⟩ => ?_
      subst hr
      exact hR s13 H12 I13 nx1
    · refine thnF (T.item Y rfl rfl rfl hc j _ s12 τ H12 (fun _ _ => False) I12 (fpok I12 n12) st12 go1) fun r s13 ⟨u1, hr, h13⟩ => ?_
      subst hr
      refine thnF h13 fun _ s14 ⟨x1, H14, I14, r14, y14, st14, n14⟩ => ?_
      have I14' := I14.pinned (fpok I14 n14) (T.obj _ _ st14)
      have pgr := pg.run _ s14 τ H14 x1 u1 _ I14' r14 (step1 x1 H14 y14)
      rw [hx] at pgr
      refine thnF pgr fun _ s15 ⟨σ15, H15, I15, hw15, q15⟩ => ?_
      have ptr := pt.run _ s15 σ15 H15 _ I15 q15
      rw [hx] at ptr
      refine thnF ptr fun b1 s16 ⟨H16, I16, q16⟩ => ?_
      have fin1 : ∀ {σ9 : L2.St} {s' : Shared} {H' : Hp}, Inv Y (pins ++ pinsAt fp s14.heap) σ9 H' s' → τ.length = σ9.length → (∀ (j : Nat) v, τ[j]? = some (some v) → σ9[j]? = some (some v)) → Nx1 H' →
          ∃ m, m < k ∧ ∃ j H', Inv Y pins τ H' s' ∧ tn j s'.heap ∧ (∀ b ∈ fp, H' b = none) ∧ W j m H' := fun {σ9 s' H'} I' hl hk nx => by
        obtain ⟨m', hm, w'⟩ := hNx1 H' nx
        have pin' : ∀ b ∈ fp, ∀ o, s14.heap.get? b = some o → s'.heap.get? b = some o ∧ H' b = none := fun b hb o e =>
          let z := I'.pin (b, o) (List.mem_append_right _ (List.mem_append_right _ (mem_pinsAt hb e)))
          ⟨z.1, z.2.1⟩
        refine ⟨m', hm, j + 1, H', I'.unpinned.weak hl hk, T.keep _ _ _ st14 fun b hb o e => (pin' b hb o e).1, fun b hb => ?_, w'⟩
        obtain ⟨o, e, _⟩ := T.obj _ _ st14 b hb
        exact (pin' b hb o e).2
      have hl8 : τ.length = σ15.length := by rw [← hw15, wipe_length]
      have hk8 : ∀ (j : Nat) v, τ[j]? = some (some v) → σ15[j]? = some (some v) := fun j v e => by
        rw [← hw15] at e
        exact (wipe_some e).1
      have hk9 : ∀ (j : Nat) v, τ[j]? = some (some v) → (L2.wipe σ15 c.vs)[j]? = some (some v) := fun j v e => by
        rw [← hw15] at e
        obtain ⟨e1, e2⟩ := wipe_some e
        rw [wipe_out fun z => e2 (hv1 j z)]
        exact e1
      cases b1 with
      | false =>
        simp only [Bool.false_eq_true, if_false] at q16 ⊢
        exact fin1 I16 hl8 hk8 q16
      | true =>
        simp only [if_true] at q16 ⊢
        have pir := hi1.run _ s16 σ15 H16 _ I16 q16
        rw [hx] at pir
        refine thnF pir fun xv s10 hxv => thnF hxv fun itv s11 h11 => ?_
        obtain ⟨it1, fp1, tn1, J1, H11, e1, I11, T1, st11, f11, W1, ⟨m1, w1⟩, turn1⟩ := h11
        subst e1
        have loop1 : codeAny (model Y.prog Y.w) Y.A (.compLoop (.ListComp elt gens scope pos) (i + 1) (.ref it1) (.ref D) Y.env)
            (fun r s' => match r with
              | .ok _ => ∃ m, m < k ∧ ∃ j H', Inv Y pins τ H' s' ∧ tn j s'.heap ∧ (∀ b ∈ fp, H' b = none) ∧ W j m H'
              | .error _ => False) s11 :=
          comp_loop hc hx pe D cs (i + 1) tg1 iter1 ifs1 c.g c.tt c.vs h2 rest hg1 ht1 (pins ++ pinsAt fp s14.heap) (L2.wipe σ15 c.vs) it1 fp1 tn1 J1 T1 W1 Nx1 _ turn1
            (fun {σ' H' s'} _ hn b hb => ⟨hn b hb, (f11 b hb).2⟩)
            (fun s' H' I' nx => fin1 I' (hl8.trans (wipe_length σ15 c.vs).symm) hk9 nx)
            m1 s11 H11 (I11.weak (wipe_length _ _) (fun j v e => (wipe_some e).1)) st11 (fun b hb => (f11 b hb).1) w1
        exact start_ok h2 loop1 (T1.self Y.A 0 _ _ _ st11 loop1)
/-- [elt for tg in iter if .. for .. in ..]: D the new list -/
def tLcN (wi : TI) (g : TG) (tt : TT) (cs : List Cl) (te : TE) (vs : List Nat) : TE := fun σ H Q => wi σ H fun J H1 => ∀ D, H1 D = none → ∃ W : Nat → Nat → Hp → Prop, (∃ m, W 0 m (upd H1 D (.lst []))) ∧ ∀ i m H, W i m H →
  (J.stop i H ∧ Q (.ref D) H) ∨ (J.go i H ∧ ∃ Nx : Hp → Prop, (∀ H', Nx H' → ∃ m', m' < m ∧ W (i + 1) m' H') ∧ ∀ x H', J.yld i H x H' → g x (L2.wipe σ vs) H' fun σ2 H2 => L2.wipe σ2 vs = L2.wipe σ vs ∧ tt σ2 H2 fun b H3 =>
    if b = true then tBody te D cs σ2 H3 Nx else Nx H3)
section
variable {X : Cx}
theorem lcN_core {pins : List (Addr × Obj)} {s : Shared} {σ : L2.St} {H : Hp} {Q : VK} {elt tg iter : Expr} {ifs : List Expr} {gens : List Comprehension} {cs : List Cl} {scope : Scope} {own : List (Str × Nat)} {pos pos' : Pos} {wi : TI} {g : TG} {tt : TT} {te : TE} {use : Option (Value → Sem Unit)} {Qf : Value → Shared → Prop}
    (hc : X.calm = true) (hN : X.N.Nodup) (I : Inv X pins σ H s) (hi : PI X tg iter wi) (ok : BlkOk X.N X.env.scope scope own)
    (hg : ∀ (s : Shared) (H : Hp) (C : Addr) (cl : List (Str × Addr)) (fp : List Addr), PG (X.blk s H scope (compEnvC scope cl C X.env) fp) tg g) (ht : ∀ (s : Shared) (H : Hp) (C : Addr) (cl : List (Str × Addr)) (fp : List Addr), PTs (X.blk s H scope (compEnvC scope cl C X.env) fp) ifs tt)
    (he : ∀ (s : Shared) (H : Hp) (C : Addr) (cl : List (Str × Addr)) (fp : List Addr), PE (X.blk s H scope (compEnvC scope cl C X.env) fp) elt te) (hs : ∀ x, foldedSetIterable iter X.env x = pure x)
    (hcs : ∀ (s : Shared) (H : Hp) (C : Addr) (cl : List (Str × Addr)) (fp : List Addr), CJs (X.blk s H scope (compEnvC scope cl C X.env) fp) (own.map (·.2)) gens cs)
    (h : tLcN wi g tt cs te (own.map (·.2)) σ H Q)
    (hRR : ∀ D C s' m H', Inv X pins σ H' s' → Q (.ref D) H' → s'.heap.Ns C m → FpOk X pins H' C → compPost (model X.prog X.w) X.A X.xe use Qf (.ref D) C (.ok .next) s') :
    wpAny (model X.prog X.w) X.A (comprehension (.ListComp elt (⟨tg, iter, ifs, 0⟩ :: gens) scope pos) scope X.env pos' (newList []) false (eval iter X.env) use) Qf X.xe s := by
  have hfree : ∀ y ∈ scope.names, y.2 = .free → ∃ c, X.env.cells.lookup y.1 = some c := fun y hy e => by
    rcases ok.free y hy e with k | k
    · exact I.ok.has _ (.inl k)
    · exact I.ok.has _ (.inr k)
  refine wpAny_comprehension_free (use := use) rfl hs (closure_ok hfree) ok.kind (fun y hy e => by rw [ok.uniq y hy, e])
    (thn (hi.run pins s σ H _ I h) fun xv s1 hx => thn hx fun itv s2 h2 => ?_)
  obtain ⟨it, fp, tn, J, H2, e, I2, T, st2, f2, q⟩ := h2
  subst e
  refine wpAny_newObj_type (newEnv_comp ?_) (by show 0 ≤ sizeLine; decide)
  generalize hD : s2.heap.objs.size = D
  have hDn : H2 D = none := I2.hok.fresh (Nat.le_of_eq hD)
  obtain ⟨W, ⟨m0, w0⟩, turn⟩ := q D hDn
  generalize hs3 : ({ s2 with heap := s2.heap.push { cls := .type "list", data := .seq ([] : List Value).toArray } } : Shared) = s3
  have I3 : Inv X pins σ (upd H2 D (.lst [])) s3 := by
    rw [← hs3]
    refine I2.laid (t' := s2.toks) (fun b o e => Heap.get?_push_of_some _ e) (Nat.le_of_eq hD) ⟨Nat.zero_le _, [], 0, .nil, ?_⟩
    rw [← hD]
    exact Heap.get?_push_size _ rfl
  have h3 : s3.heap = s2.heap.push { cls := .type "list", data := .seq ([] : List Value).toArray } := by rw [← hs3]
  have sz : ∀ b ∈ fp, b < s2.heap.objs.size := fun b hb => by
    obtain ⟨o, e, _⟩ := T.obj _ _ st2 b hb
    exact Heap.lt_size e
  have f3 : ∀ b ∈ fp, FpOk X pins (upd H2 D (.lst [])) b ∧ b < s3.heap.objs.size := fun b hb => by
    have hlt := sz b hb
    refine ⟨⟨?_, (f2 b hb).2⟩, by rw [h3, Heap.size_push]; exact Nat.lt_succ_of_lt hlt⟩
    rw [upd_ne (by rw [← hD]; exact Nat.ne_of_lt hlt)]
    exact (f2 b hb).1
  have st3 : tn 0 s3.heap := T.keep _ _ _ st2 fun b _ o e => by rw [h3]; exact Heap.get?_push_of_some _ e
  have I4 := block_start I3 ok hN f3
  have pg := hg s3 (upd H2 D (.lst [])) s3.heap.objs.size (cellsFrom (s3.heap.objs.size + 1) scope.names (cloFrom X.env.cells scope.names [])) fp
  have pt := ht s3 (upd H2 D (.lst [])) s3.heap.objs.size (cellsFrom (s3.heap.objs.size + 1) scope.names (cloFrom X.env.cells scope.names [])) fp
  have pe := he s3 (upd H2 D (.lst [])) s3.heap.objs.size (cellsFrom (s3.heap.objs.size + 1) scope.names (cloFrom X.env.cells scope.names [])) fp
  have pcs := hcs s3 (upd H2 D (.lst [])) s3.heap.objs.size (cellsFrom (s3.heap.objs.size + 1) scope.names (cloFrom X.env.cells scope.names [])) fp
  show codeAny _ _ (.compStart (.ListComp elt (⟨tg, iter, ifs, 0⟩ :: gens) scope pos) 0 (.ref it) (.ref D) (compEnvC scope (cellsFrom (s3.heap.objs.size + 1) scope.names (cloFrom X.env.cells scope.names [])) s3.heap.objs.size X.env)) (compPost (model X.prog X.w) X.A X.xe use Qf (.ref D) s3.heap.objs.size) { s3 with heap := pushCells (s3.heap.push { cls := .type "dict", data := .dict #[] }) scope.names }
  have nfp : ∀ b ∈ fp, (upd H2 D (.lst [])) b = none := fun b hb => (f3 b hb).1.1
  generalize hce : compEnvC scope (cellsFrom (s3.heap.objs.size + 1) scope.names (cloFrom X.env.cells scope.names [])) s3.heap.objs.size X.env = ce at I4 pg pt pe pcs ⊢
  have cL : ce.locals = s3.heap.objs.size := by subst hce; rfl
  generalize hH3 : upd H2 D (.lst []) = H3 at I3 I4 pg pt pe pcs w0 nfp f3
  generalize hs4 : ({ s3 with heap := pushCells (s3.heap.push { cls := .type "dict", data := .dict #[] }) scope.names } : Shared) = s4 at I4 ⊢
  have st4 : tn 0 s4.heap := T.keep _ _ _ st3 fun b _ o e => by rw [← hs4]; exact pushCells_keeps _ _ _ _ (Heap.get?_push_of_some _ e)
  have stat : ∀ {σ' : L2.St} {H' : Hp} {s' : Shared}, Inv (X.blk s3 H3 scope ce fp) [] σ' H' s' → (∀ b ∈ fp, H' b = none) → ∀ b ∈ fp, FpOk (X.blk s3 H3 scope ce fp) [] H' b := fun {σ' H' s'} I' hn b hb =>
    ⟨hn b hb, (I'.ok.exf b hb).1, I'.ok.exfs b hb, .inl hb, fun x c e => (I'.ok.exf b hb).2 x c e, fun p hp => absurd (show p ∈ ([] : List (Addr × Obj)) ++ [] from hp) (by simp)⟩
  have loop : codeAny (model X.prog X.w) X.A (.compLoop (.ListComp elt (⟨tg, iter, ifs, 0⟩ :: gens) scope pos) 0 (.ref it) (.ref D) ce) (compPost (model X.prog X.w) X.A X.xe use Qf (.ref D) s3.heap.objs.size) s4 :=
    comp_loop (Y := X.blk s3 H3 scope ce fp) hc rfl pe D cs 0 tg iter ifs g tt (own.map (·.2)) rfl pcs pg pt [] (L2.wipe σ (own.map (·.2))) it fp tn J T W (Q (.ref D)) _ turn stat
      (fun s6 H5 I6 qq => by
        have I7 : Inv X pins σ H5 s6 := I3.call' (ch := fp) I6.os I6.base I6.hok I6.bare fun b hb => ⟨(f3 b hb).1.2.2.2.1, (f3 b hb).1.2.1, (f3 b hb).1.2.2.2.2.1, (f3 b hb).1.2.2.2.2.2⟩
        have nC : H5 s3.heap.objs.size = none := by
          have z : H5 ce.locals = none := I6.free
          rw [cL] at z
          exact z
        obtain ⟨m, hn, _⟩ := I6.loc
        have hn : s6.heap.Ns ce.locals m := hn
        rw [cL] at hn
        exact hRR D s3.heap.objs.size s6 m H5 I7 qq hn (I3.fpOk (Nat.le_refl _) nC)) m0 s4 H3 I4 st4 nfp w0
  exact codeAny_compStart_list loop (T.self X.A 0 _ _ _ st4 loop)
theorem pe_lcN {elt tg iter : Expr} {ifs : List Expr} {gens : List Comprehension} {cs : List Cl} {scope : Scope} {own : List (Str × Nat)} {pos : Pos} {wi : TI} {g : TG} {tt : TT} {te : TE} (hc : X.calm = true) (hN : X.N.Nodup) (hi : PI X tg iter wi) (ok : BlkOk X.N X.env.scope scope own)
    (hg : ∀ (s : Shared) (H : Hp) (C : Addr) (cl : List (Str × Addr)) (fp : List Addr), PG (X.blk s H scope (compEnvC scope cl C X.env) fp) tg g) (ht : ∀ (s : Shared) (H : Hp) (C : Addr) (cl : List (Str × Addr)) (fp : List Addr), PTs (X.blk s H scope (compEnvC scope cl C X.env) fp) ifs tt)
    (he : ∀ (s : Shared) (H : Hp) (C : Addr) (cl : List (Str × Addr)) (fp : List Addr), PE (X.blk s H scope (compEnvC scope cl C X.env) fp) elt te)
    (hcs : ∀ (s : Shared) (H : Hp) (C : Addr) (cl : List (Str × Addr)) (fp : List Addr), CJs (X.blk s H scope (compEnvC scope cl C X.env) fp) (own.map (·.2)) gens cs) (hs : ∀ x, foldedSetIterable iter X.env x = pure x := by intro _; rfl) :
    PE X (.ListComp elt (⟨tg, iter, ifs, 0⟩ :: gens) scope pos) (tLcN wi g tt cs te (own.map (·.2))) := by
  refine ⟨fun pins s σ H Q I h => ?_⟩
  rw [eval_ListComp]
  refine lcN_core hc hN I hi ok hg ht he hs hcs h fun D C s' m H' I' q hn f => ⟨m, hn, fun h'' sb => ?_⟩
  obtain ⟨f0, f1, f2, f3, f4, f5⟩ := f
  exact ⟨.ref D, H', I'.turned (t' := s'.toks) (fun b o hb e => (sb.2 b hb).trans e) f0 f1 f3 f4 f5, rfl, q⟩
theorem ps_setLcN {i : Nat} {y : Str} {py : Pos} {elt tg iter : Expr} {ifs : List Expr} {gens : List Comprehension} {cs : List Cl} {scope : Scope} {own : List (Str × Nat)} {pos spos : Pos} {wi : TI} {g : TG} {tt : TT} {te : TE} (hc : X.calm = true) (hN : X.N.Nodup) (hy : X.N[i]? = some y) (hyl : X.env.scope.names.lookup y = some .local)
    (hsw : swapsWith (.ListComp elt (⟨tg, iter, ifs, 0⟩ :: gens) scope pos) (some (.Name y py)) spos.line X.env = pure true) (hi : PI X tg iter wi) (ok : BlkOk X.N X.env.scope scope own)
    (hg : ∀ (s : Shared) (H : Hp) (C : Addr) (cl : List (Str × Addr)) (fp : List Addr), PG (X.blk s H scope (compEnvC scope cl C X.env) fp) tg g) (ht : ∀ (s : Shared) (H : Hp) (C : Addr) (cl : List (Str × Addr)) (fp : List Addr), PTs (X.blk s H scope (compEnvC scope cl C X.env) fp) ifs tt)
    (he : ∀ (s : Shared) (H : Hp) (C : Addr) (cl : List (Str × Addr)) (fp : List Addr), PE (X.blk s H scope (compEnvC scope cl C X.env) fp) elt te)
    (hcs : ∀ (s : Shared) (H : Hp) (C : Addr) (cl : List (Str × Addr)) (fp : List Addr), CJs (X.blk s H scope (compEnvC scope cl C X.env) fp) (own.map (·.2)) gens cs) (hs : ∀ x, foldedSetIterable iter X.env x = pure x := by intro _; rfl) :
    PS X (.Assign [.Name y py] (.ListComp elt (⟨tg, iter, ifs, 0⟩ :: gens) scope pos) spos) (tAsg (tLcN wi g tt cs te (own.map (·.2))) (gName i)) := by
  refine ⟨fun pins s σ H D I h => ?_⟩
  rw [exec_Assign_Name_used _ _ _ _ hsw]
  refine wpAny_bind (wpAny_standAt (wpAny_bind ?_))
  show wpAny _ X.A (do let _ ← comprehension (.ListComp elt (⟨tg, iter, ifs, 0⟩ :: gens) scope pos) scope X.env (firstIterPos (⟨tg, iter, ifs, 0⟩ :: gens) pos) (newList []) false (eval iter X.env) (some (assign (.Name y py) X.env))) _ _ s
  have h : tLcN wi g tt cs te (own.map (·.2)) σ H (fun x H1 => gName i x σ H1 D.nx) := h
  refine wpAny_bind (thn (lcN_core (Qf := fun _ s' => SP X pins D .next s') hc hN I hi ok hg ht he hs hcs h fun L C s' m H' I' q hn f => ?_) fun _ s' hq => wpAny_pure (wpAny_pure hq))
  show wpAny _ _ (assign (.Name y py) X.env (.ref L)) _ _ _
  refine wpAny_assign_Name (store_ok2 (v := V.ref L) I' hN hy (.inl hyl) rfl (fun s2 I2 ⟨a, sb, ha⟩ => ?_) (.inr hyl))
  obtain ⟨f0, f1, f2, f3, f4, f5⟩ := f
  have haC : C ≠ a := by
    rcases ha with z | z
    · rw [z]; exact f1
    · exact fun e => f4 y a z e.symm
  refine ⟨m, hn.sameBut sb haC, fun h3 sb3 => ?_⟩
  exact ⟨_, H', I2.turned (t' := s2.toks) (fun b o hb e => (sb3.2 b hb).trans e) f0 f1 f3 f4 f5, q⟩
end
end Nv
-- N25
namespace Nv
open PySem PySem.Spec PyProof.Rows L2
open Evl (Ex)
structure DCl where
  src : Ev → Rs (List D)
  g : TgF
  t : Ev → Rs Bool
  vs : List Nat
def loopN {α : Type} (body : α → Ev → Option (α × Ev)) (Γ0 : Ev) (g : TgF) (t : Ev → Rs Bool) : List D → α → Ev → Option (α × Ev)
  | [], acc, Γ => some (acc, Γ)
  | d :: r, acc, Γ => match g d Γ with
    | none => none
    | some Γ1 => match t Γ1 with
      | .ok true Γ2 => (match body acc Γ2 with
        | some p => loopN body Γ0 g t r p.1 (anchor Γ0 p.2)
        | none => none)
      | .ok false Γ2 => loopN body Γ0 g t r acc (anchor Γ0 Γ2)
      | _ => none
def bodyN (f : Ev → Rs D) : List DCl → List D → Ev → Option (List D × Ev)
  | [], acc, Γ => (match f Γ with
    | .ok y Γ' => if acc.length < sizeLine then some (acc ++ [y], Γ') else none
    | _ => none)
  | c :: cs, acc, Γ => match c.src Γ with
    | .ok items Γ1 => loopN (bodyN f cs) (wipeG Γ1 c.vs) c.g c.t items acc (wipeG Γ1 c.vs)
    | _ => none
def compN (vs : List Nat) (src : Ev → Rs (List D × List Nat)) (g : TgF) (t : Ev → Rs Bool) (cs : List DCl) (f : Ev → Rs D) : Ev → Rs AV := fun Γ => (src Γ).bind fun p Γ1 =>
  match loopN (bodyN f cs) (wipeG Γ1 (vs ++ p.2)) g t p.1 [] (wipeG Γ1 (vs ++ p.2)) with
  | some q => .ok (.own (.lst q.1)) (unw Γ1 q.2 (vs ++ p.2))
  | none => .bad
/-- the readings of the inner clauses are those of the data -/
inductive Rdc (c : Cf) : List Nat → List Cl → List DCl → Prop where
  | nil {all : List Nat} : Rdc c all [] []
  | cons {all : List Nat} {a : Cl} {d : DCl} {as : List Cl} {ds : List DCl} {ts : List Nat} (hw : a.wi = tI c.calm d.src) (gs : GSpec c a.g ts d.g) (hts : ∀ i ∈ ts, i ∈ d.vs) (ht : a.tt = tR c.calm vrT d.t) (hv : a.vs = d.vs)
      (sub : ∀ i ∈ d.vs, i ∈ all) (r : Rdc c d.vs as ds) : Rdc c all (a :: as) (d :: ds)
/-- what a new list, a new dict holds -/
def Kl (M : Md) (F : Hp) (acc : List D) (u : HO) : Prop := ∃ xs, u = .lst xs ∧ Reps M F acc xs
theorem Kl.mono {M : Md} {F F' : Hp} {acc : List D} {u : HO} (e : Ex F F') (h : Kl M F acc u) : Kl M F' acc u := by
  obtain ⟨xs, h1, h2⟩ := h
  exact ⟨xs, h1, h2.mono e⟩
/-- what stands in a comprehension's turn: A1, F1, H1 ahead of the new list at L -/
structure CSt {α : Type} (K : Hp → α → HO → Prop) (c : Cf) (A1 : Addr → Prop) (F1 H1 : Hp) (L : Addr) (σ : L2.St) (Γ : Ev) (F H : Hp) (acc : α) : Prop where
  rel : Rel c.M c.σ0 F H σ Γ
  ext : Ext A1 F1 H1 (own σ Γ) F H
  at_ : ∃ u, H L = some u ∧ K F acc u
  nf : F L = none
  nL : ¬ own σ Γ L
theorem PoI.bindN {c : Cf} {σ : L2.St} {F H : Hp} {Γ : Ev} {r : Rs (List D)} {R : It → Hp → Prop} {items : List D} {Γ1 : Ev} (e : r = .ok items Γ1) (h : ∀ F' H' J, Rel c.M c.σ0 F' H' σ Γ1 → Ext (own σ Γ) F H (own σ Γ1) F' H' → Wk c.M F' noP items J → R J H') : PoI c σ F H Γ r R := by
  subst e
  exact h
theorem wipe_sub {σ σ' : L2.St} {vs all : List Nat} (h : L2.wipe σ vs = L2.wipe σ' vs) (hs : ∀ i ∈ vs, i ∈ all) : L2.wipe σ all = L2.wipe σ' all := by
  have hl : σ.length = σ'.length := by rw [← wipe_length σ vs, h, wipe_length]
  apply List.ext_getElem?
  intro j
  by_cases hj : j ∈ all
  · have gone : ∀ τ : L2.St, (L2.wipe τ all)[j]? = if j < τ.length then some none else none := fun τ => by
      by_cases hlt : j < τ.length
      · rw [if_pos hlt]
        have : (L2.wipe τ all)[j]? ≠ none := by
          rw [Ne, List.getElem?_eq_none_iff, wipe_length]
          omega
        cases e : (L2.wipe τ all)[j]? with
        | none => exact absurd e this
        | some o =>
          cases o with
          | none => rfl
          | some x => exact absurd hj (wipe_some e).2
      · rw [if_neg hlt, List.getElem?_eq_none (by rw [wipe_length]; omega)]
    rw [gone, gone, hl]
  · rw [wipe_out hj, wipe_out hj, ← wipe_out (σ := σ) (vs := vs) fun z => hj (hs j z), h, wipe_out fun z => hj (hs j z)]
section
variable {c : Cf} {A1 : Addr → Prop} {F1 H1 : Hp} {L : Addr} {f : Ev → Rs D}
/-- the turns of one clause; B: what its body is to do -/
theorem loop_rd {α : Type} {K : Hp → α → HO → Prop} (hK : ∀ {F F' : Hp} {acc : α} {u : HO}, Ex F F' → K F acc u → K F' acc u) (hKn : ∀ {F : Hp} {acc : α} {u : HO}, K F acc u → NT u ∧ NX u) {vs ts : List Nat} {g : TG} {gf : TgF} {t : Ev → Rs Bool} (gs : GSpec c g ts gf) (hts : ∀ i ∈ ts, i ∈ vs)
    {body : α → Ev → Option (α × Ev)} {B : L2.St → Hp → (Hp → Prop) → Prop}
    (hB : ∀ (σ : L2.St) (Γ : Ev) (F H : Hp) (acc : α) (p : α × Ev) (Nx : Hp → Prop), CSt K c A1 F1 H1 L σ Γ F H acc → body acc Γ = some p →
      (∀ σ' F' H', L2.wipe σ' vs = L2.wipe σ vs → Ex F F' → CSt K c A1 F1 H1 L σ' p.2 F' H' p.1 → Nx H') → B σ H Nx)
    {σ : L2.St} {Γ0 : Ev} (hΓ : ∀ i t o, Γ0[i]? = some (Slot.own t o) → i ∉ vs) {J : It} {items : List D} {P : Addr → HO → Prop} {F0 : Hp} (w : Wk c.M F0 P items J) {accF : α} {ΓF : Ev}
    {F2 H2 : Hp} {acc0 : α} (s0 : CSt K c A1 F1 H1 L (L2.wipe σ vs) Γ0 F2 H2 acc0) (ex0 : Ex F0 F2) (h0 : loopN body Γ0 gf t items acc0 Γ0 = some (accF, ΓF))
    (hP : ∀ F H Γ acc, CSt K c A1 F1 H1 L (L2.wipe σ vs) Γ F H acc → (∀ b, own (L2.wipe σ vs) Γ b → own (L2.wipe σ vs) Γ0 b) → ∀ a u, P a u → H a = some u)
    {Qd : Hp → Prop} (hQ : ∀ F H, CSt K c A1 F1 H1 L (L2.wipe σ vs) ΓF F H accF → Ex F2 F → (∀ b, own (L2.wipe σ vs) ΓF b → own (L2.wipe σ vs) Γ0 b) → Qd H) :
    ∃ W : Nat → Nat → Hp → Prop, (∃ m, W 0 m H2) ∧ ∀ j k H, W j k H → (J.stop j H ∧ Qd H) ∨ (J.go j H ∧ ∃ Nx1 : Hp → Prop, (∀ H', Nx1 H' → ∃ k', k' < k ∧ W (j + 1) k' H') ∧
      ∀ x H', J.yld j H x H' → g x (L2.wipe σ vs) H' fun σ3 H5 => L2.wipe σ3 vs = L2.wipe σ vs ∧ tR c.calm vrT t σ3 H5 fun b H6 => if b = true then B σ3 H6 Nx1 else Nx1 H6) := by
  obtain ⟨G, Y, w, hG, hY⟩ := w
  let Pv : Nat → Hp → Prop := fun i H => ∃ F Γ acc, CSt K c A1 F1 H1 L (L2.wipe σ vs) Γ F H acc ∧ (∀ b, own (L2.wipe σ vs) Γ b → own (L2.wipe σ vs) Γ0 b) ∧ Ex F2 F ∧ loopN body Γ0 gf t (items.drop i) acc Γ = some (accF, ΓF)
  refine ⟨fun i m H => m = items.length - i ∧ i ≤ items.length ∧ Pv i H, ⟨_, rfl, Nat.zero_le _, F2, Γ0, acc0, s0, (fun _ z => z), Evl.Ex.refl _, h0⟩, ?_⟩
  rintro j k H ⟨rfl, hj, F, Γ, acc, s, osub, ex, hl⟩
  have q := hG F H (ex0.trans ex) s.rel.sub (hP F H Γ acc s osub)
  by_cases hlt : j < items.length
  · refine .inr ⟨w.goes j H hlt q, Pv (j + 1), fun H' p' => ⟨items.length - (j + 1), by omega, rfl, hlt, p'⟩, fun x H' y => ?_⟩
    obtain ⟨F3, d, hd, e2, sub2, rd⟩ := hY j F H x H' hlt (ex0.trans ex) s.rel.sub (w.yields j H x H' hlt q y)
    have ra2 := s.rel.op e2 sub2
    obtain ⟨xs, hD, hacc⟩ := s.at_
    have hdrop : items.drop j = d :: items.drop (j + 1) := by
      obtain ⟨h1, h2⟩ := List.getElem?_eq_some_iff.mp hd
      rw [← h2]
      exact List.drop_eq_getElem_cons h1
    rw [hdrop] at hl
    unfold loopN at hl
    cases hgd : gf d Γ with
    | none => rw [hgd] at hl; cases hl
    | some Γ3 =>
      rw [hgd] at hl
      dsimp only at hl
      refine gs (L2.wipe σ vs) F3 H' Γ x d Γ3 _ ra2 rd hgd fun σ3 x1 x2 x3 => ?_
      have hw3 : L2.wipe σ3 vs = L2.wipe σ vs := by rw [x3 vs hts, wipe_idem]
      have s3 : CSt K c A1 F1 H1 L σ3 Γ3 F3 H' acc := ⟨x1, (s.ext.trans (e2.sub fun _ z => z.elim)).subA x2, ⟨xs, e2.hh L _ id hD (hKn hacc).2.ntb, hK e2.ff hacc⟩, e2.fn L _ id hD s.nf (hKn hacc).1, fun z => s.nL (x2 L z)⟩
      -- back to the start of a turn
      have back : ∀ {σ5 : L2.St} {Γ5 : Ev} {F5 H5 : Hp} {acc5 : α}, L2.wipe σ5 vs = L2.wipe σ vs → CSt K c A1 F1 H1 L σ5 Γ5 F5 H5 acc5 → Ex F3 F5 → loopN body Γ0 gf t (items.drop (j + 1)) acc5 (anchor Γ0 Γ5) = some (accF, ΓF) → Pv (j + 1) H5 :=
        fun {σ5 Γ5 F5 H5 acc5} hw5 s5 ex5 hl5 => by
          have ex6 : Ex F2 F5 := (ex.trans e2.ff).trans ex5
          obtain ⟨y1, y2⟩ := rel_anchor s0.rel s5.rel ex6 hw5 hΓ
          exact ⟨F5, _, acc5, ⟨y1, s5.ext.subA fun b z => (y2 b z).2, s5.at_, s5.nf, fun z => s5.nL (y2 L z).2⟩, (fun b z => (y2 b z).1), ex6, hl5⟩
      refine ⟨hw3, F3, Γ3, x1, ?_⟩
      cases ht : t Γ3 with
      | bad => rw [ht] at hl; cases hl
      | ex n l Γ4 => rw [ht] at hl; cases hl
      | ok b Γ4 =>
        rw [ht] at hl
        intro F4 H4 v r4 e4 ev
        have ev2 : v = b := ev
        subst ev2
        obtain ⟨xs3, hD3, hacc3⟩ := s3.at_
        have s4 : CSt K c A1 F1 H1 L σ3 Γ4 F4 H4 acc := ⟨r4, s3.ext.trans e4, ⟨xs3, e4.hh L _ s3.nL hD3 (hKn hacc3).2.ntb, hK e4.ff hacc3⟩, e4.fn L _ s3.nL hD3 s3.nf (hKn hacc3).1, fun z => by
          rcases e4.aa L z with z | z
          · exact s3.nL z
          · rw [hD3] at z; cases z⟩
        cases v with
        | false =>
          rw [if_neg (by decide)]
          exact back hw3 s4 e4.ff hl
        | true =>
          rw [if_pos rfl]
          dsimp only at hl
          cases hb : body acc Γ4 with
          | none => rw [hb] at hl; cases hl
          | some p =>
            rw [hb] at hl
            exact hB σ3 Γ4 F4 H4 acc p _ s4 hb fun σ' F' H'' hw' ex' s5 => back (hw'.trans hw3) s5 (e4.ff.trans ex') hl
  · have e : j = items.length := by omega
    subst e
    rw [List.drop_length] at hl
    unfold loopN at hl
    cases hl
    exact .inl ⟨w.stops H q, hQ F H s ex osub⟩
/-- the body of a clause -/
theorem body_rd (hL : H1 L = none) : ∀ {all : List Nat} {as : List Cl} {ds : List DCl}, Rdc c all as ds → ∀ (σ : L2.St) (Γ : Ev) (F H : Hp) (acc : List D) (p : List D × Ev) (Nx : Hp → Prop), CSt (Kl c.M) c A1 F1 H1 L σ Γ F H acc → bodyN f ds acc Γ = some p →
    (∀ σ' F' H', L2.wipe σ' all = L2.wipe σ all → Ex F F' → CSt (Kl c.M) c A1 F1 H1 L σ' p.2 F' H' p.1 → Nx H') → tBody (tR c.calm (vrD c.M) f) L as σ H Nx
  | all, _, _, .nil, σ, Γ, F, H, acc, p, Nx, s, hb, k => by
    unfold bodyN at hb
    refine ⟨F, Γ, s.rel, ?_⟩
    cases hf : f Γ with
    | bad => rw [hf] at hb; cases hb
    | ex n l Γ5 => rw [hf] at hb; cases hb
    | ok y Γ5 =>
      rw [hf] at hb
      dsimp only at hb
      split at hb
      · rename_i hlen
        cases hb
        intro F5 H5 v r5 e5 rv
        obtain ⟨u0, hD, xs, rfl, hacc⟩ := s.at_
        have hD5 : H5 L = some (.lst xs) := e5.hh L _ s.nL hD trivial
        have fD5 : F5 L = none := e5.fn L _ s.nL hD s.nf trivial
        have n5 : ¬ own σ Γ5 L := fun z => by
          rcases e5.aa L z with z | z
          · exact s.nL z
          · rw [hD] at z; cases z
        have hacc5 := hacc.mono e5.ff
        have ex := s.ext.trans e5
        refine ⟨xs, hD5, by rw [hacc5.length]; exact hlen, k σ F5 _ rfl e5.ff ⟨?_, ?_, ⟨_, upd_same, xs ++ [v], rfl, hacc5.snoc rv⟩, fD5, n5⟩⟩
        · refine r5.grow (Evl.Ex.refl _) (fun b u hb => ?_) (fun b z => ⟨upd_ne fun e => n5 (e ▸ z), (r5.ownF z).1⟩) (r5.tab.upd fun u hu => by rw [hD5] at hu; cases hu; trivial)
          rw [upd_ne fun e => by rw [e, fD5] at hb; cases hb]
          exact r5.sub b u hb
        · refine ⟨ex.ff, fun b u n hb nt => ?_, ex.fn, ex.aa, ex.k.trans (Keep.upd fun u hu => by rw [hD5] at hu; cases hu; trivial)⟩
          rw [upd_ne (ne_of_none hb hL)]
          exact ex.hh b u n hb nt
      · cases hb
  | all, _, _, @Rdc.cons _ _ a d as ds ts hw gs hts ht hv sub r, σ, Γ, F, H, acc, p, Nx, s, hb, k => by
    unfold bodyN at hb
    cases hsrc : d.src Γ with
    | bad => rw [hsrc] at hb; cases hb
    | ex n l Γ5 => rw [hsrc] at hb; cases hb
    | ok items Γ1 =>
      rw [hsrc] at hb
      dsimp only at hb
      show a.wi σ H _
      rw [hw, ht, hv]
      refine ⟨F, Γ, s.rel, PoI.bindN hsrc fun F2 H2 J r2 e2 wk => ?_⟩
      obtain ⟨xs, hD, hacc⟩ := s.at_
      have hv2 : ∀ i ∈ d.vs, i ∈ d.vs := fun i hi => hi
      have r0 : Rel c.M c.σ0 F2 H2 (L2.wipe σ d.vs) (wipeG Γ1 d.vs) := rel_wipe r2 hv2
      have osub : ∀ b, own (L2.wipe σ d.vs) (wipeG Γ1 d.vs) b → own σ Γ1 b := fun b z => by
        obtain ⟨i, t, o, _, k1, k2⟩ := own_wipe hv2 z
        exact ⟨i, t, o, k1, k2⟩
      have n2 : ¬ own σ Γ1 L := fun z => by
        rcases e2.aa L z with z | z
        · exact s.nL z
        · rw [hD] at z; cases z
      have s0 : CSt (Kl c.M) c A1 F1 H1 L (L2.wipe σ d.vs) (wipeG Γ1 d.vs) F2 H2 acc :=
        ⟨r0, (s.ext.trans e2).subA osub, ⟨xs, e2.hh L _ s.nL hD (by obtain ⟨_, rfl, _⟩ := hacc; trivial), hacc.mono e2.ff⟩, e2.fn L _ s.nL hD s.nf (by obtain ⟨_, rfl, _⟩ := hacc; trivial), fun z => n2 (osub L z)⟩
      refine loop_rd (K := Kl c.M) (fun e h => Kl.mono e h) (fun h => by obtain ⟨_, rfl, _⟩ := h; exact ⟨trivial, trivial⟩) gs hts (B := fun σ H Nx => tBody (tR c.calm (vrD c.M) f) L as σ H Nx) (body := bodyN f ds) (fun σ Γ F H acc p Nx s hb k => body_rd hL r σ Γ F H acc p Nx s hb k)
        (fun i t o q z => ?_) wk s0 (Evl.Ex.refl _) hb (fun _ _ _ _ _ _ _ _ z => z.elim) fun F H s ex _ => k (L2.wipe σ d.vs) F H (wipe_sub (wipe_idem) sub) (e2.ff.trans ex) s
      rcases wipeG_get q with ⟨_, e⟩ | ⟨n, _⟩
      · cases e
      · exact n z
end
theorem rd_lcN {c : Cf} {vs ts : List Nat} {src : Ev → Rs (List D × List Nat)} {tg : TG} {g : TgF} {t : Ev → Rs Bool} {f : Ev → Rs D} {as : List Cl} {ds : List DCl} (gs : GSpec c tg ts g) (hts : ∀ i ∈ ts, i ∈ vs) (hr : Rdc c vs as ds) {σ : L2.St} {H : Hp} {Q : VK} (h : tR c (vrO c.M) (compN vs src g t ds f) σ H Q) :
    tLcN (tI2 c src) tg (tR c.calm vrT t) as (tR c.calm (vrD c.M) f) vs σ H Q := by
  obtain ⟨F, Γ, r, q⟩ := h
  refine ⟨F, Γ, r, (PoI2.bind2 q).imp fun J H1 ⟨F1, Γ1, ⟨items, hs⟩, r1, e1, wk, q1⟩ => ?_⟩
  intro L nL
  dsimp only at wk q1
  have hv : ∀ i ∈ vs, i ∈ vs ++ hs := fun i hi => List.mem_append_left _ hi
  have r0 : Rel c.M c.σ0 F1 H1 (L2.wipe σ vs) (wipeG Γ1 (vs ++ hs)) := rel_wipe r1 hv
  have hvs : ∀ i t o, (wipeG Γ1 (vs ++ hs))[i]? = some (Slot.own t o) → i ∉ vs := fun i t o q z => by
    rcases wipeG_get q with ⟨_, e⟩ | ⟨n, _⟩
    · cases e
    · exact n (hv i z)
  have nL0 : ¬ own (L2.wipe σ vs) (wipeG Γ1 (vs ++ hs)) L := fun z => by
    obtain ⟨_, u, hu⟩ := r0.ownF z
    rw [nL] at hu; cases hu
  cases hc : loopN (bodyN f ds) (wipeG Γ1 (vs ++ hs)) g t items [] (wipeG Γ1 (vs ++ hs)) with
  | none => rw [hc] at q1; exact q1.elim
  | some res =>
    rw [hc] at q1
    obtain ⟨accF, ΓF⟩ := res
    dsimp only at q1
    have s0 : CSt (Kl c.M) c (own (L2.wipe σ vs) (wipeG Γ1 (vs ++ hs))) F1 H1 L (L2.wipe σ vs) (wipeG Γ1 (vs ++ hs)) F1 (upd H1 L (.lst [])) [] :=
      ⟨r0.new nL, Ext.new nL, ⟨_, upd_same, [], rfl, Reps.nil⟩, r1.fr nL, nL0⟩
    refine loop_rd (K := Kl c.M) (fun e h => Kl.mono e h) (fun h => by obtain ⟨_, rfl, _⟩ := h; exact ⟨trivial, trivial⟩) gs hts (B := fun σ H Nx => tBody (tR c.calm (vrD c.M) f) L as σ H Nx) (body := bodyN f ds) (fun σ Γ F H acc p Nx s hb k => body_rd nL hr σ Γ F H acc p Nx s hb k) hvs wk s0 (Evl.Ex.refl _) hc ?_ ?_
    · rintro F' H' Γ' acc s osub a u ⟨j, hj, t', o', g1, g2, g3⟩
      refine s.ext.hh a u (fun z => ?_) g3 (r1.ownNX ⟨j, t', o', g1, g2⟩ g3).ntb
      obtain ⟨k, t2, o2, n, k1, k2⟩ := own_wipe hv z
      have z2 := r1.sep j k _ _ _ _ a g1 k1 g2 k2
      subst z2
      exact n (List.mem_append_right _ hj)
    · intro F' H' s ex osub
      obtain ⟨u0, hD, xs, rfl, hacc⟩ := s.at_
      obtain ⟨y1, y2, y3⟩ := rel_unw r1 hv s.rel s.ext osub
      refine q1 F' H' (.ref L) y1 (e1.trans y2) ⟨L, rfl, s.nf, fun z => ?_, ⟨xs, hD, hacc⟩, e1.back (.inr nL)⟩
      obtain ⟨_, u, hu⟩ := r1.ownF (y3 L z)
      rw [nL] at hu; cases hu
end Nv
-- N26
namespace Nv
open PySem PySem.Spec PyProof.Rows L2
open Evl (Ex)
section
variable {X Y : Cx} {c : Cf}
theorem cjs_cons {all vs : List Nat} {tg iter : Expr} {ifs : List Expr} {src : Ev → Rs (List D)} {g : TG} {t : Ev → Rs Bool} {gs : List Comprehension} {as : List Cl} (hi : PI Y tg iter (tI c.calm src)) (hg : PG Y tg g) (ht : PTs Y ifs (tR c.calm vrT t)) (r : CJs Y vs gs as)
    (hv : ∀ j ∈ vs, j ∈ all := by decide) (hs : ∀ x, foldedSetIterable iter Y.env x = pure x := by intro _; rfl) : CJs Y all (⟨tg, iter, ifs, 0⟩ :: gs) (⟨tI c.calm src, g, tR c.calm vrT t, vs⟩ :: as) := .cons hi hg ht hv hs r
theorem rdc_cons {all vs ts : List Nat} {src : Ev → Rs (List D)} {g : TG} {gf : TgF} {t : Ev → Rs Bool} {as : List Cl} {ds : List DCl} (gs : GSpec c g ts gf) (r : Rdc c vs as ds) (hts : ∀ i ∈ ts, i ∈ vs := by decide) (sub : ∀ i ∈ vs, i ∈ all := by decide) :
    Rdc c all (⟨tI c.calm src, g, tR c.calm vrT t, vs⟩ :: as) (⟨src, gf, t, vs⟩ :: ds) := .cons rfl gs hts rfl rfl sub r
theorem do_lcN {elt tg iter : Expr} {ifs : List Expr} {gens : List Comprehension} {as : List Cl} {ds : List DCl} {scope : Scope} {own : List (Str × Nat)} {pos : Pos} {src : Ev → Rs (List D × List Nat)} {g : TG} {gf : TgF} {ts : List Nat} {t : Ev → Rs Bool} {f : Ev → Rs D} (hc : X.calm = true) (hN : X.N.Nodup) (hi : DI2 X c tg iter src) (ok : BlkOk X.N X.env.scope scope own)
    (hg : ∀ (s : Shared) (H : Hp) (C : Addr) (cl : List (Str × Addr)) (fp : List Addr), PG (X.blk s H scope (compEnvC scope cl C X.env) fp) tg g) (gs : GSpec c g ts gf) (hts : ∀ i ∈ ts, i ∈ own.map (·.2)) (ht : ∀ (s : Shared) (H : Hp) (C : Addr) (cl : List (Str × Addr)) (fp : List Addr), DTs (X.blk s H scope (compEnvC scope cl C X.env) fp) c.calm ifs t)
    (he : ∀ (s : Shared) (H : Hp) (C : Addr) (cl : List (Str × Addr)) (fp : List Addr), DE (X.blk s H scope (compEnvC scope cl C X.env) fp) c.calm elt f)
    (hcs : ∀ (s : Shared) (H : Hp) (C : Addr) (cl : List (Str × Addr)) (fp : List Addr), CJs (X.blk s H scope (compEnvC scope cl C X.env) fp) (own.map (·.2)) gens as) (hr : Rdc c (own.map (·.2)) as ds) (hs : ∀ x, foldedSetIterable iter X.env x = pure x := by intro _; rfl) :
    DO X c (.ListComp elt (⟨tg, iter, ifs, 0⟩ :: gens) scope pos) (compN (own.map (·.2)) src gf t ds f) := PE.of (pe_lcN hc hN hi ok hg ht he hcs hs) fun σ H Q q => rd_lcN gs hts hr q
theorem ds_setLcN {i : Nat} {y : Str} {py : Pos} {elt tg iter : Expr} {ifs : List Expr} {gens : List Comprehension} {as : List Cl} {ds : List DCl} {scope : Scope} {own : List (Str × Nat)} {pos spos : Pos} {src : Ev → Rs (List D × List Nat)} {g : TG} {gf : TgF} {ts : List Nat} {t : Ev → Rs Bool} {f : Ev → Rs D} (hc : X.calm = true) (hN : X.N.Nodup) (hy : X.N[i]? = some y) (hyl : X.env.scope.names.lookup y = some .local)
    (hsw : swapsWith (.ListComp elt (⟨tg, iter, ifs, 0⟩ :: gens) scope pos) (some (.Name y py)) spos.line X.env = pure true) (hi : DI2 X c tg iter src) (ok : BlkOk X.N X.env.scope scope own)
    (hg : ∀ (s : Shared) (H : Hp) (C : Addr) (cl : List (Str × Addr)) (fp : List Addr), PG (X.blk s H scope (compEnvC scope cl C X.env) fp) tg g) (gs : GSpec c g ts gf) (hts : ∀ i ∈ ts, i ∈ own.map (·.2)) (ht : ∀ (s : Shared) (H : Hp) (C : Addr) (cl : List (Str × Addr)) (fp : List Addr), DTs (X.blk s H scope (compEnvC scope cl C X.env) fp) c.calm ifs t)
    (he : ∀ (s : Shared) (H : Hp) (C : Addr) (cl : List (Str × Addr)) (fp : List Addr), DE (X.blk s H scope (compEnvC scope cl C X.env) fp) c.calm elt f)
    (hcs : ∀ (s : Shared) (H : Hp) (C : Addr) (cl : List (Str × Addr)) (fp : List Addr), CJs (X.blk s H scope (compEnvC scope cl C X.env) fp) (own.map (·.2)) gens as) (hr : Rdc c (own.map (·.2)) as ds) (hs : ∀ x, foldedSetIterable iter X.env x = pure x := by intro _; rfl) :
    DS X c (.Assign [.Name y py] (.ListComp elt (⟨tg, iter, ifs, 0⟩ :: gens) scope pos) spos) (setS i (compN (own.map (·.2)) src gf t ds f)) := PS.of (ps_setLcN hc hN hy hyl hsw hi ok hg ht he hcs hs) fun De σ H q => rd_lcN gs hts hr (rd_set q)
end
section
variable {ι : Type} {gd : TgF} {t : Ev → Rs Bool} {body : List D → Ev → Option (List D × Ev)}
theorem loopN_fm {Γ0 Γ : Ev} (e : ι → D) (val : ι → List D) (P : ι → Prop)
    (h : ∀ x, P x → ∃ Γ1, gd (e x) Γ = some Γ1 ∧ ((∃ Γ2, t Γ1 = .ok true Γ2 ∧ ∀ acc : List D, acc.length + (val x).length ≤ sizeLine → ∃ Γ3, body acc Γ2 = some (acc ++ val x, Γ3) ∧ anchor Γ0 Γ3 = Γ) ∨ (∃ Γ2, t Γ1 = .ok false Γ2 ∧ val x = [] ∧ anchor Γ0 Γ2 = Γ))) :
    ∀ (xs : List ι) (acc : List D), (∀ x ∈ xs, P x) → acc.length + (xs.flatMap val).length ≤ sizeLine → loopN body Γ0 gd t (xs.map e) acc Γ = some (acc ++ xs.flatMap val, Γ)
  | [], acc, _, _ => by simp [loopN]
  | x :: xs, acc, hP, hl => by
    obtain ⟨Γ1, h1, h2⟩ := h x (hP x List.mem_cons_self)
    rw [List.flatMap_cons, List.length_append] at hl
    rw [List.map_cons, loopN, h1]
    dsimp only
    rcases h2 with ⟨Γ2, h2, h3⟩ | ⟨Γ2, h2, h3, h4⟩
    · rw [h2]
      obtain ⟨Γ3, h4, h5⟩ := h3 acc (by omega)
      dsimp only
      rw [h4]
      dsimp only
      rw [h5, loopN_fm e val P h xs (acc ++ val x) (fun y hy => hP y (List.mem_cons_of_mem _ hy)) (by rw [List.length_append]; omega), List.flatMap_cons, List.append_assoc]
    · rw [h2]
      dsimp only
      rw [h4, loopN_fm e val P h xs acc (fun y hy => hP y (List.mem_cons_of_mem _ hy)) (by rw [h3] at hl; simpa using hl), List.flatMap_cons, h3, List.nil_append]
end
section
variable {Γ : Ev} {vs : List Nat} {gd : TgF} {t : Ev → Rs Bool} {ds : List DCl} {d : Ev → Rs D} {srcp : Ev → Rs (List D × List Nat)} {p : List D × List Nat}
def kCompN (vs : List Nat) (gd : TgF) (t : Ev → Rs Bool) (ds : List DCl) (d : Ev → Rs D) (p : List D × List Nat) (Γ : Ev) : Rs AV := (match loopN (bodyN d ds) (wipeG Γ (vs ++ p.2)) gd t p.1 [] (wipeG Γ (vs ++ p.2)) with
  | some q => .ok (.own (.lst q.1)) (unw Γ q.2 (vs ++ p.2))
  | none => .bad)
theorem kCompN_ap : kCompN vs gd t ds d p Γ = (match loopN (bodyN d ds) (wipeG Γ (vs ++ p.2)) gd t p.1 [] (wipeG Γ (vs ++ p.2)) with
  | some q => .ok (.own (.lst q.1)) (unw Γ q.2 (vs ++ p.2))
  | none => .bad) := rfl
theorem compN_ap : compN vs srcp gd t ds d Γ = (srcp Γ).bind (kCompN vs gd t ds d) := rfl
end
end Nv
-- N27
namespace Nv
open PySem PySem.Spec PyProof.Rows L2
open Evl (Ex)
def bodyD (fk fv : Ev → Rs D) : List (D × D) → Ev → Option (List (D × D) × Ev) := fun acc Γ => match fk Γ with
  | .ok k Γ1 => (match fv Γ1 with
    | .ok v Γ2 => if k.key.isSome = true ∧ acc.length < sizeLine then some (dput acc k v, Γ2) else none
    | _ => none)
  | _ => none
def compD (vs : List Nat) (src : Ev → Rs (List D × List Nat)) (g : TgF) (t : Ev → Rs Bool) (fk fv : Ev → Rs D) : Ev → Rs AV := fun Γ => (src Γ).bind fun p Γ1 =>
  match loopN (bodyD fk fv) (wipeG Γ1 (vs ++ p.2)) g t p.1 [] (wipeG Γ1 (vs ++ p.2)) with
  | some q => .ok (.own (.dct q.1)) (unw Γ1 q.2 (vs ++ p.2))
  | none => .bad
def Kd (M : Md) (F : Hp) (acc : List (D × D)) (u : HO) : Prop := ∃ xs, u = .dK xs ∧ RepK M F acc xs
theorem Kd.mono {M : Md} {F F' : Hp} {acc : List (D × D)} {u : HO} (e : Ex F F') (h : Kd M F acc u) : Kd M F' acc u := by
  obtain ⟨xs, h1, h2⟩ := h
  exact ⟨xs, h1, h2.mono e⟩
theorem key_of {M : Md} {F H : Hp} {d : D} {v : V} (h : Rep M F d v) (e : d.key.isSome = true) : ∃ k, d = kD k ∧ v = kV k ∧ kOk k = true := by
  cases q : d.key with
  | none => rw [q] at e; cases e
  | some k =>
    have := key1 (H := F) (h.one (fun _ _ z => z)) q
    exact ⟨k, this⟩
theorem rd_dc {c : Cf} {vs ts : List Nat} {src : Ev → Rs (List D × List Nat)} {tg : TG} {g : TgF} {t : Ev → Rs Bool} {fk fv : Ev → Rs D} (gs : GSpec c tg ts g) (hts : ∀ i ∈ ts, i ∈ vs) {σ : L2.St} {H : Hp} {Q : VK} (h : tR c (vrO c.M) (compD vs src g t fk fv) σ H Q) :
    tDc (tI2 c src) tg (tR c.calm vrT t) (tR c.calm (vrD c.M) fk) (tR c.calm (vrD c.M) fv) vs σ H Q := by
  obtain ⟨F, Γ, r, q⟩ := h
  refine ⟨F, Γ, r, (PoI2.bind2 q).imp fun J H1 ⟨F1, Γ1, ⟨items, hs⟩, r1, e1, wk, q1⟩ => ?_⟩
  intro L nL
  dsimp only at wk q1
  have hv : ∀ i ∈ vs, i ∈ vs ++ hs := fun i hi => List.mem_append_left _ hi
  have r0 : Rel c.M c.σ0 F1 H1 (L2.wipe σ vs) (wipeG Γ1 (vs ++ hs)) := rel_wipe r1 hv
  have hvs : ∀ i t o, (wipeG Γ1 (vs ++ hs))[i]? = some (Slot.own t o) → i ∉ vs := fun i t o q z => by
    rcases wipeG_get q with ⟨_, e⟩ | ⟨n, _⟩
    · cases e
    · exact n (hv i z)
  have nL0 : ¬ own (L2.wipe σ vs) (wipeG Γ1 (vs ++ hs)) L := fun z => by
    obtain ⟨_, u, hu⟩ := r0.ownF z
    rw [nL] at hu; cases hu
  cases hc : loopN (bodyD fk fv) (wipeG Γ1 (vs ++ hs)) g t items [] (wipeG Γ1 (vs ++ hs)) with
  | none => rw [hc] at q1; exact q1.elim
  | some res =>
    rw [hc] at q1
    obtain ⟨accF, ΓF⟩ := res
    dsimp only at q1
    have s0 : CSt (Kd c.M) c (own (L2.wipe σ vs) (wipeG Γ1 (vs ++ hs))) F1 H1 L (L2.wipe σ vs) (wipeG Γ1 (vs ++ hs)) F1 (upd H1 L (.dK [])) [] :=
      ⟨r0.new nL, Ext.new nL, ⟨_, upd_same, [], rfl, by unfold RepK; rfl⟩, r1.fr nL, nL0⟩
    refine loop_rd (K := Kd c.M) (fun e h => Kd.mono e h) (fun h => by obtain ⟨_, rfl, _⟩ := h; exact ⟨trivial, trivial⟩) gs hts (B := fun σ H Nx => tR c.calm (vrD c.M) fk σ H fun y H4 => tR c.calm (vrD c.M) fv σ H4 fun z H5 => ∃ kvs k, y = kV k ∧ H5 L = some (.dK kvs) ∧ kvs.length < sizeLine ∧ Nx (upd H5 L (.dK (putK kvs k z)))) (body := bodyD fk fv) ?_ hvs wk s0 (Evl.Ex.refl _) hc ?_ ?_
    · intro σ Γ F H acc p Nx s hb k
      unfold bodyD at hb
      refine ⟨F, Γ, s.rel, ?_⟩
      cases hk : fk Γ with
      | bad => rw [hk] at hb; cases hb
      | ex n l Γ5 => rw [hk] at hb; cases hb
      | ok dk Γ4 =>
        rw [hk] at hb
        dsimp only at hb
        intro F4 H4 y r4 e4 ry
        refine ⟨F4, Γ4, r4, ?_⟩
        cases hf : fv Γ4 with
        | bad => rw [hf] at hb; cases hb
        | ex n l Γ5 => rw [hf] at hb; cases hb
        | ok dv Γ5 =>
          rw [hf] at hb
          dsimp only at hb
          split at hb
          · rename_i hlen
            cases hb
            intro F5 H5 z r5 e5 rz
            obtain ⟨u0, hD, xs, rfl, hacc⟩ := s.at_
            have ee := e4.trans e5
            have hD5 : H5 L = some (.dK xs) := ee.hh L _ s.nL hD trivial
            have fD5 : F5 L = none := ee.fn L _ s.nL hD s.nf trivial
            have n5 : ¬ own σ Γ5 L := fun z => by
              rcases ee.aa L z with z | z
              · exact s.nL z
              · rw [hD] at z; cases z
            have hacc5 := hacc.mono ee.ff
            have ex := s.ext.trans ee
            obtain ⟨kk, rfl, rfl, ok⟩ := key_of (H := H5) ry hlen.1
            refine ⟨xs, kk, rfl, hD5, by rw [hacc5.length]; exact hlen.2, k σ F5 _ rfl ee.ff ⟨?_, ?_, ⟨_, upd_same, _, rfl, hacc5.put kk ok rz⟩, fD5, n5⟩⟩
            · refine r5.grow (Evl.Ex.refl _) (fun b u hb => ?_) (fun b z => ⟨upd_ne fun e => n5 (e ▸ z), (r5.ownF z).1⟩) (r5.tab.upd fun u hu => by rw [hD5] at hu; cases hu; trivial)
              rw [upd_ne fun e => by rw [e, fD5] at hb; cases hb]
              exact r5.sub b u hb
            · refine ⟨ex.ff, fun b u n hb nt => ?_, ex.fn, ex.aa, ex.k.trans (Keep.upd fun u hu => by rw [hD5] at hu; cases hu; trivial)⟩
              rw [upd_ne (ne_of_none hb nL)]
              exact ex.hh b u n hb nt
          · cases hb
    · rintro F' H' Γ' acc s osub a u ⟨j, hj, t', o', g1, g2, g3⟩
      refine s.ext.hh a u (fun z => ?_) g3 (r1.ownNX ⟨j, t', o', g1, g2⟩ g3).ntb
      obtain ⟨k, t2, o2, n, k1, k2⟩ := own_wipe hv z
      have z2 := r1.sep j k _ _ _ _ a g1 k1 g2 k2
      subst z2
      exact n (List.mem_append_right _ hj)
    · intro F' H' s ex osub
      obtain ⟨u0, hD, xs, rfl, hacc⟩ := s.at_
      obtain ⟨y1, y2, y3⟩ := rel_unw r1 hv s.rel s.ext osub
      refine q1 F' H' (.ref L) y1 (e1.trans y2) ⟨L, rfl, s.nf, fun z => ?_, ⟨xs, hD, hacc⟩, e1.back (.inr nL)⟩
      obtain ⟨_, u, hu⟩ := r1.ownF (y3 L z)
      rw [nL] at hu; cases hu
theorem do_dc {X : Cx} {c : Cf} {kx vx tg iter : Expr} {ifs : List Expr} {scope : Scope} {own : List (Str × Nat)} {pos : Pos} {src : Ev → Rs (List D × List Nat)} {g : TG} {gf : TgF} {ts : List Nat} {t : Ev → Rs Bool} {fk fv : Ev → Rs D} (hc : X.calm = true) (hN : X.N.Nodup) (hi : DI2 X c tg iter src) (ok : BlkOk X.N X.env.scope scope own)
    (hg : ∀ (s : Shared) (H : Hp) (C : Addr) (cl : List (Str × Addr)) (fp : List Addr), PG (X.blk s H scope (compEnvC scope cl C X.env) fp) tg g) (gs : GSpec c g ts gf) (hts : ∀ i ∈ ts, i ∈ own.map (·.2)) (ht : ∀ (s : Shared) (H : Hp) (C : Addr) (cl : List (Str × Addr)) (fp : List Addr), DTs (X.blk s H scope (compEnvC scope cl C X.env) fp) c.calm ifs t)
    (hk : ∀ (s : Shared) (H : Hp) (C : Addr) (cl : List (Str × Addr)) (fp : List Addr), DE (X.blk s H scope (compEnvC scope cl C X.env) fp) c.calm kx fk)
    (he : ∀ (s : Shared) (H : Hp) (C : Addr) (cl : List (Str × Addr)) (fp : List Addr), DE (X.blk s H scope (compEnvC scope cl C X.env) fp) c.calm vx fv) (hs : ∀ x, foldedSetIterable iter X.env x = pure x := by intro _; rfl) :
    DO X c (.DictComp kx vx [⟨tg, iter, ifs, 0⟩] scope pos) (compD (own.map (·.2)) src gf t fk fv) := PE.of (pe_dc hc hN hi ok hg ht hk he hs) fun σ H Q q => rd_dc gs hts q
section
variable {Γ : Ev} {vs : List Nat} {gd : TgF} {t : Ev → Rs Bool} {d1 d2 : Ev → Rs D} {srcp : Ev → Rs (List D × List Nat)} {p : List D × List Nat}
def kCompD (vs : List Nat) (gd : TgF) (t : Ev → Rs Bool) (d1 d2 : Ev → Rs D) (p : List D × List Nat) (Γ : Ev) : Rs AV := (match loopN (bodyD d1 d2) (wipeG Γ (vs ++ p.2)) gd t p.1 [] (wipeG Γ (vs ++ p.2)) with
  | some q => .ok (.own (.dct q.1)) (unw Γ q.2 (vs ++ p.2))
  | none => .bad)
theorem kCompD_ap : kCompD vs gd t d1 d2 p Γ = (match loopN (bodyD d1 d2) (wipeG Γ (vs ++ p.2)) gd t p.1 [] (wipeG Γ (vs ++ p.2)) with
  | some q => .ok (.own (.dct q.1)) (unw Γ q.2 (vs ++ p.2))
  | none => .bad) := rfl
theorem compD_ap : compD vs srcp gd t d1 d2 Γ = (srcp Γ).bind (kCompD vs gd t d1 d2) := rfl
end
end Nv
-- N28
namespace Nv
open PySem PySem.Spec PyProof.Rows L2
open Evl (Ex)
section
variable {X : Cx}
/-- sorted, from what is gathered -/
theorem sorted_from {pins : List (Addr × Obj)} {σ : L2.St} {H : Hp} {s : Shared} {v : Value} {ks : List Str} {Q : VK} (I : Inv X pins σ H s) (h64 : ks.length < 64)
    (col : ∀ R : List Value → Shared → Prop, (∀ h' tk acc, (∀ b o, s.heap.get? b = some o → h'.get? b = some o) → StrsAre acc ks → R acc { s with heap := h', toks := tk }) → wpAny (model X.prog X.w) X.A.in1 (collect v) R X.xe s)
    (q : ∀ (ys : List Str) (p : Addr), ys.Perm ks → sortedS ys = true → H p = none → Q (.ref p) (upd H p (.lst (ys.map V.str)))) :
    wpAny (model X.prog X.w) X.A (call (.builtin "sorted") [v]) (EP X pins σ Q) X.xe s := by
  refine Calls.call_function_entry PyProof.Rows.kind_sorted PyProof.Rows.plain_sorted PyProof.Rows.entry_sorted (PyProof.Rows.args_sorted1 _) ?_
  unfold Builtin.«sorted»
  refine wpAny_bind (m := checkCount "sorted" 1 1 _) (wpAny_pure ?_)
  refine wpAny_bind (col _ fun h' tk acc hk hS => ?_)
  have hal : acc.length = ks.length := hS.len_eq
  have I1 : Inv X pins σ H { s with heap := h', toks := tk } := I.kept hk
  refine wpAny_bind (wpAny_newList ?_ (by rw [hal, sizeLine_eq]; omega))
  have hoL : (h'.push (seqObj "list" acc.toArray 0)).get? h'.objs.size = some (seqObj "list" acc.toArray 0) := Heap.get?_push_size _ rfl
  show wpAny _ _ _ _ _ { s with heap := h'.push (seqObj "list" acc.toArray 0), toks := tk }
  refine wpAny_bind (wpAny_holding (wpAny_call_entry PyProof.Rows.slot_list_sort ⟨_, hoL, rfl⟩ PyProof.Rows.entry_list_sort
    (list_sort_treeK strKind_oneLt (s := { s with heap := h'.push (seqObj "list" acc.toArray 0), toks := tk }) hoL hS.keysOf (fun v₁ v₂ rest e => keyKind_strs (by rw [← e]; exact hS)) (by rw [hal]; exact h64) fun st' hp hs => ⟨_, rfl, ?_⟩)
    (PyProof.Rows.args_list_sort _)))
  obtain ⟨ys, g1, g2, g3⟩ := sorted_out_str hS hp hs
  obtain ⟨e', he'⟩ := PyProof.Rows.sortedHeap_at (vs := acc) (out := (arrOf st').map (·.2)) hoL
  have hlen : (ys.map V.str).length ≤ sizeLine := by
    rw [List.length_map, g2.length_eq]
    exact Nat.le_trans (Nat.le_of_lt h64) (by decide)
  refine wpAny_pure ⟨_, rfl, .ref h'.objs.size, upd H h'.objs.size (.lst (ys.map V.str)), I1.laid (t' := tk) (fun b u e => ?_) (Nat.le_refl _)
    (show ObjOk X.prog X.w _ _ _ (.lst (ys.map V.str)) from ⟨hlen, ((arrOf st').map (·.2)).toList, e', vals_of_strs g1, by rw [Array.toArray_toList]; exact he'⟩), rfl, q ys _ g2 g3 (I1.hok.fresh (Nat.le_refl _))⟩
  have hb : b < h'.objs.size := Heap.lt_size e
  rw [PyProof.Rows.sortedHeap_old (Nat.ne_of_lt hb) (by rw [size_push']; exact Nat.lt_succ_of_lt hb)]
  exact Heap.get?_push_of_some _ e
def rSortA (K : PySem.W.Frag) : List V → Hp → VK → Prop := fun vs H Q => ∃ (x : V) (ks : List Str), vs = [x] ∧ ks.length < 64 ∧ ((∃ a, x = .ref a ∧ (SqL K H a (ks.map V.str) ∨ SqT K H a (ks.map V.str))) ∨ ∃ z, x = .str z ∧ ks = z.cps.toList.map fun c => ⟨#[c]⟩) ∧
  ∀ (ys : List Str) (p : Addr), ys.Perm ks → sortedS ys = true → H p = none → Q (.ref p) (upd H p (.lst (ys.map V.str)))
theorem signs_at {z : Str} {acc : Array Value} (h : ItemsOf (SignAt z) acc z.cps.size) : StrsAre acc.toList (z.cps.toList.map fun c => (⟨#[c]⟩ : Str)) := by
  refine strs_at (by rw [Array.length_toList, h.1, List.length_map, Array.length_toList]) fun j v e => ?_
  have hj : acc[j]? = some v := by rw [← Array.getElem?_toList]; exact e
  obtain ⟨c, t, h1, h2⟩ := h.2 j v hj
  refine ⟨⟨#[c]⟩, t, ?_, h2⟩
  rw [List.getElem?_map, Array.getElem?_toList, h1]
  rfl
theorem cr_sortA (hc : X.calm = true) : CallR X (.builtin "sorted") (rSortA X.K) := by
  intro pins s σ H vs us Q I r h
  obtain ⟨x, ks, rfl, h64, hx, q⟩ := h
  obtain ⟨u, rfl, rx⟩ := vals1 r
  have hh : X.A.in1.handled = none := I.ok.hd hc
  rcases hx with ⟨a, rfl, hs | hs⟩ | ⟨z, rfl, rfl⟩
  · cases rx
    obtain ⟨its, rv, p, hz⟩ := I.list hs
    have hl := rv.length
    refine sorted_from I h64 (fun R k => ?_) q
    obtain ⟨o, n, ho, hcl, hd, hda⟩ := p
    exact wpAny_collect_seq a (.inl rfl) ho hcl hda (fun h' hk => k h' s.toks _ hk rv.strs) (by rw [List.size_toArray, ← hl]; exact hz)
  · cases rx
    obtain ⟨its, rv, p, hz⟩ := I.tuple hs
    have hl := rv.length
    refine sorted_from I h64 (fun R k => ?_) q
    obtain ⟨o, ho, hcl, n, hda⟩ := p
    exact wpAny_collect_seq a (.inr rfl) ho hcl hda (fun h' hk => k h' s.toks _ hk rv.strs) (by rw [List.size_toArray, ← hl]; exact hz)
  · obtain ⟨t, rfl⟩ := rx
    refine sorted_from I h64 (fun R k => wpAny_collect_str hh z t (fun s' acc hk g d o hi => ?_) ?_) q
    · obtain ⟨h', g', d', tk', os'⟩ := s'
      have eg : g' = s.gens := g
      have ed : d' = s.drawn := d
      have eo : os' = s.os := o
      subst eg; subst ed; subst eo
      exact k h' tk' _ hk (signs_at hi)
    · rw [List.length_map, Array.length_toList] at h64
      rw [sizeLine_eq]; omega
end
def leT (a b : List Nat) : Bool := !decide (b < a)
theorem leT_trans {a b c : List Nat} (h1 : leT a b = true) (h2 : leT b c = true) : leT a c = true := by
  unfold leT at *
  simp only [Bool.not_eq_true', decide_eq_false_iff_not, List.not_lt] at *
  exact List.le_trans h1 h2
theorem leT_total (a b : List Nat) : (leT a b || leT b a) = true := by
  unfold leT
  simp only [Bool.or_eq_true, Bool.not_eq_true', decide_eq_false_iff_not, List.not_lt]
  exact List.le_total a b
theorem leT_anti {a b : List Nat} (h1 : leT a b = true) (h2 : leT b a = true) : a = b := by
  unfold leT at *
  simp only [Bool.not_eq_true', decide_eq_false_iff_not, List.not_lt] at *
  exact List.le_antisymm h1 h2
def sortT (l : List (List Nat)) : List (List Nat) := l.mergeSort leT
theorem sortT_perm (l : List (List Nat)) : (sortT l).Perm l := List.mergeSort_perm l leT
theorem sortT_sorted (l : List (List Nat)) : (sortT l).Pairwise fun a b => leT a b = true := List.pairwise_mergeSort (le := leT) (fun _ _ _ h1 h2 => leT_trans h1 h2) leT_total l
theorem perm_sorted_eq : ∀ {l l' : List (List Nat)}, l.Perm l' → (l.Pairwise fun a b => leT a b = true) → (l'.Pairwise fun a b => leT a b = true) → l = l'
  | [], l', p, _, _ => (List.nil_perm.mp p).symm
  | a :: l, [], p, _, _ => absurd p.length_eq (by simp)
  | a :: l, b :: l', p, h1, h2 => by
    obtain ⟨h3, h4⟩ := List.pairwise_cons.mp h1
    obtain ⟨h5, h6⟩ := List.pairwise_cons.mp h2
    have e : a = b := by
      have m1 : b ∈ a :: l := p.mem_iff.mpr List.mem_cons_self
      have m2 : a ∈ b :: l' := p.mem_iff.mp List.mem_cons_self
      rcases List.mem_cons.mp m1 with e | m1
      · exact e.symm
      · rcases List.mem_cons.mp m2 with e | m2
        · exact e
        · exact leT_anti (h3 b m1) (h5 a m2)
    subst e
    rw [perm_sorted_eq (List.Perm.cons_inv p) h4 h6]
theorem risingS_pw : ∀ (p : Str) (l : List Str), risingS p l = true → (p :: l).Pairwise fun a b => leT a.cps.toList b.cps.toList = true
  | p, [], _ => List.pairwise_singleton _ _
  | p, x :: l, h => by
    unfold risingS at h
    rw [Bool.and_eq_true] at h
    have h2 := risingS_pw x l h.2
    have h1 : leT p.cps.toList x.cps.toList = true := by unfold leT; rw [← ltCps_eq]; exact h.1
    refine List.pairwise_cons.mpr ⟨fun y hy => ?_, h2⟩
    rcases List.mem_cons.mp hy with e | hy
    · rw [e]; exact h1
    · exact leT_trans h1 ((List.pairwise_cons.mp h2).1 y hy)
theorem sortedS_pw : ∀ {l : List Str}, sortedS l = true → l.Pairwise fun a b => leT a.cps.toList b.cps.toList = true
  | [], _ => .nil
  | x :: l, h => risingS_pw x l h
def sortS (l : List Str) : List Str := (sortT (l.map TL.tl)).map SX.S
theorem sortS_eq {ys ks : List Str} (p : ys.Perm ks) (h : sortedS ys = true) : ys = sortS ks := by
  unfold sortS
  have h1 : (ys.map TL.tl) = sortT (ks.map TL.tl) := by
    refine perm_sorted_eq ((p.map TL.tl).trans (sortT_perm _).symm) ?_ (sortT_sorted _)
    rw [List.pairwise_map]
    exact sortedS_pw h
  rw [← h1, List.map_map]
  conv => lhs; rw [← List.map_id ys]
  exact List.map_congr_left fun x _ => (SX.S_tl x).symm
theorem sortS_S (l : List (List Nat)) : sortS (l.map SX.S) = (sortT l).map SX.S := by
  unfold sortS
  rw [List.map_map]
  congr 2
  conv => rhs; rw [← List.map_id l]
  exact List.map_congr_left fun x _ => by show (TL.tl (SX.S x)) = x; rfl
theorem sortS_perm (l : List Str) : (sortS l).Perm l := by
  unfold sortS
  have := (sortT_perm (l.map TL.tl)).map SX.S
  refine this.trans ?_
  rw [List.map_map]
  conv => rhs; rw [← List.map_id l]
  exact List.Perm.of_eq (List.map_congr_left fun x _ => SX.S_tl x)
/-- what sorted is told of: lists and tuples of texts, texts -/
def txtsOf : D → Option (List Str)
  | .lst l => strsO l
  | .tup l => strsO l
  | .fz l => strsO l
  | .str z => some (z.cps.toList.map fun c => ⟨#[c]⟩)
  | _ => none
def gSort (d : D) : Option AV := match txtsOf d with
  | some ks => if ks.length < 64 then some (.own (.lst ((sortS ks).map .str))) else none
  | none => none
theorem os_sort {M : Md} : OpS M (rSortA M.K) (gA1 gSort) := opS1 fun F H x d av Q sub r1 e h => by
  unfold gSort at e
  split at e
  · rename_i ks hk
    split at e
    · rename_i hl
      cases e
      have fin : ks.all PyData.strOk = true → ∀ (ys : List Str) (p : Addr), ys.Perm ks → sortedS ys = true → H p = none → Q (.ref p) (upd H p (.lst (ys.map V.str))) := fun ok ys p hp hs hn => by
        rw [sortS_eq hp hs]
        refine fin_lst sub h hn (Reps.mkStrs ?_)
        rw [List.all_eq_true] at ok ⊢
        exact fun z hz => ok z ((sortS_perm ks).mem_iff.mp hz)
      unfold txtsOf at hk
      split at hk
      · rename_i l
        obtain ⟨a, xs, rfl, h1, h2⟩ := r1_lst r1
        rw [strsO_eq hk] at h2
        obtain ⟨h3, h4⟩ := h2.strs
        subst h3
        exact ⟨_, ks, rfl, hl, .inl ⟨a, rfl, .inl (SqL.of h1)⟩, fin h4⟩
      · rename_i l
        obtain ⟨a, xs, rfl, h1, h2⟩ := r1_tup r1
        rw [strsO_eq hk] at h2
        obtain ⟨h3, h4⟩ := h2.strs
        subst h3
        exact ⟨_, ks, rfl, hl, .inl ⟨a, rfl, .inr (Evl.ex_t sub h1)⟩, fin h4⟩
      · rename_i l
        obtain ⟨a, xs, rfl, h1, h2⟩ := r1_fz r1
        rw [strsO_eq hk] at h2
        obtain ⟨h3, h4⟩ := h2.strs
        subst h3
        exact ⟨_, ks, rfl, hl, .inl ⟨a, rfl, .inl (Evl.ex_l sub h1)⟩, fin h4⟩
      · rename_i z
        obtain ⟨rfl, ok⟩ := r1_str r1
        cases hk
        refine ⟨_, _, rfl, hl, .inr ⟨z, rfl, rfl⟩, fin ?_⟩
        rw [List.all_eq_true]
        intro w hw
        obtain ⟨n, hn, rfl⟩ := List.mem_map.mp hw
        exact strOk_mem ok hn
      · cases hk
    · cases e
  · cases e
theorem strOk_ofString (z : String) : PyData.strOk (Str.ofString z) = true := by
  show (Array.all _ _) = true
  rw [← Array.all_toList]
  show (cpsOfBytes 0 0 z.toByteArray.data.toList).all _ = true
  rw [cpsOfBytes_string, List.all_map, List.all_eq_true]
  intro c _
  have h := c.valid
  simp only [UInt32.isValidChar, Nat.isValidChar] at h
  have : c.toNat = c.val.toNat := rfl
  simp only [Function.comp, decide_eq_true_eq]
  omega
def gStr : D → Option AV
  | .str z => some (.dat (.str z))
  | .int i => if i.natAbs.log2 < 1920 then some (.dat (.str (Str.ofString (toString i)))) else none
  | _ => none
def rStrA : List V → Hp → VK → Prop := fun xs H Q => (∃ a, xs = [.str a] ∧ Q (.str a) H) ∨ ∃ i, xs = [.int i] ∧ i.natAbs.log2 < 1920 ∧ Q (.str (toString i)) H
theorem call_strA {X : Cx} : CallR X (.type "str") rStrA := SkE.call_str_str.or call_str_int
theorem os_str {M : Md} : OpS M rStrA (gA1 gStr) := opS1 fun F H x d av Q sub r1 e h => by
  unfold gStr at e
  split at e
  · cases e
    obtain ⟨rfl, ok⟩ := r1_str r1
    exact .inl ⟨_, rfl, fin_dat sub h (rep_str.mpr ⟨rfl, ok⟩)⟩
  · split at e
    · rename_i hz
      cases e
      cases r1_int r1
      exact .inr ⟨_, rfl, hz, fin_dat sub h (rep_str.mpr ⟨rfl, strOk_ofString _⟩)⟩
    · cases e
  · cases e
section
variable {X : Cx} {c : Cf} {e : Expr} {es : List Expr} {pos p : Pos} {f : Ev → Rs (List OV)}
theorem do_str (hm : X.mg "str" = none) (ha : DA X c (e :: es) f) (hg : Gl X "str" := by rfl) (he : starEach (e :: es) X.env = (false, eval e X.env) :: starEach es X.env := by rfl) (hpl : (backTo pos (starEach es X.env)).any (·.1) = false := by rfl) : DO X c (.Call (.Name "str" p) (e :: es) [] pos) (opA (gA1 gStr) f) :=
  do_callTy call_strA os_str hm ha (hg := hg) (he := he) (hpl := hpl)
end
end Nv
-- N29
namespace Nv
open PySem PySem.Spec PyProof.Rows L2 NdefX
open Evl (Ex)
/-- what the written part says of an error's own __init__ that asks super() -/
structure SupF (P : Program) (K : PySem.W.Frag) (D f c cc : Addr) (qual : Str) (params : Arguments) (body : List Stmt) (scope : Scope) (fd : FuncData) : Prop where
  fn : ∃ (oc : Value) (od : Option Addr) (kV doc pm ct : Value) (an : Option Addr) (osl : Array (Option Value)), fd = PySem.W.fnX "__init__" qual params body scope [("__class__", cc)] .none kV doc pm an (.ref c) ct ∧ K.lookup f = some ⟨oc, od, .func fd, osl⟩
  cd : PySem.W.codeIn K (.ref c) qual = true
  fl : ∃ (ccl : Value) (cdd : Option Addr) (vs : Array Value) (ccs : Array (Option Value)) (file : Str) (tf : Tok), K.lookup c = some ⟨ccl, cdd, .fields vs, ccs⟩ ∧ vs[2]? = some (.str file tf) ∧ ((P.main.file : Str) == file) = true
  cl : ∃ (x : Value) (y : Option Addr) (z : Array (Option Value)), K.lookup cc = some ⟨x, y, .cell (some (.ref D)), z⟩
  cls : ∃ cd, PySem.W.clsIn K D = some cd
  top : (P.main.scope.names.lookup ("super" : Str)).isSome = false
  sup : PySem.W.ks_superIn K D D "__init__" = some (some (.builtin "ValueError.__init__"))
  mro : PySem.W.mroIn K D (.ref D) = some true
  ve : PySem.W.subIn K (.ref D) (.type "ValueError") = some true
  opq : PySem.W.nsIn K cStatics "thirdparty.any" = some none
/-- how super().__init__(m) is read (it hangs on the lines where it stands) -/
structure SupEv (env : Env) (p0 p1 p2 p3 p4 : Pos) (m : Str) (j : Nat) : Prop where
  ex : ∃ pl : Sem Bool, eval (.Call (.Attribute (.Call (.Name "super" p0) [] [] p1) "__init__" p2) [.Constant (.str m) j p3] [] p4) env = (do
    let ov ← attributeBase (.Call (.Name "super" p0) [] [] p1) "__init__" env (eval (.Call (.Name "super" p0) [] [] p1) env)
    standAt p2.atName
    let (f, first) ← holding [ov] (getMethod ov "__init__" pl)
    callWith p4 f first (backTo p4 (starEach [.Constant (.str m) j p3] env)) [])
section
variable {X : Cx} {pins : List (Addr × Obj)} {σ : L2.St} {H : Hp} {s : Shared} {a D f c cc : Addr} {qual : Str} {params : Arguments} {body body' : List Stmt} {scope : Scope} {fd : FuncData}
theorem sup_stmt {p0 p1 p2 p3 p4 p5 : Pos} {m : Str} {j : Nat} {ar : Arg} {E : Value → Shared → Prop} {Q : Flow → Shared → Prop} (S : SupF X.prog X.K D f c cc qual params body' scope fd) (T : OexC X.K D) (I : Inv X pins σ H s)
    (he : ∃ L, X.env = PySem.W.envX qual scope L f (.ref c) [("__class__", cc)]) (hp : (params.posonlyargs ++ params.args).head? = some ar) (h0 : X.N[0]? = some ar.arg) (hv : σ[0]? = some (some (.ref a))) (e : H a = some (exo a D none))
    (ks : scope.names.lookup ("super" : Str) = some .globalImplicit) (kc : scope.names.lookup ("__class__" : Str) = some .free) (ka : scope.names.lookup ar.arg = some .local) (hm : X.mg "super" = none)
    (hev : SupEv X.env p0 p1 p2 p3 p4 m j) (hsw : swapsWith (.Call (.Attribute (.Call (.Name "super" p0) [] [] p1) "__init__" p2) [.Constant (.str m) j p3] [] p4) none p5.line X.env = pure false)
    (hq : ∀ s', Inv X pins σ H s' → Q .next s') :
    _root_.PySem.wpAt (model X.prog X.w) X.A (.func body X.env) (exec (.Expr (.Call (.Attribute (.Call (.Name "super" p0) [] [] p1) "__init__" p2) [.Constant (.str m) j p3] [] p4) p5) X.env) Q E s := by
  obtain ⟨L, he⟩ := he
  obtain ⟨oc, od, kV, doc, pm, ct, an, osl, rfl, lk⟩ := S.fn
  obtain ⟨ccl, cdd, vs, ccs, file, tf, lc, hvs, hfile⟩ := S.fl
  obtain ⟨x1, x2, x3, lcell⟩ := S.cl
  obtain ⟨cdD, hcD⟩ := S.cls
  obtain ⟨t1, ho⟩ := exo_at I.hok e
  have hnew := T.cls
  obtain ⟨nm, q, N, bs, bm, sn, sub, ab, col, dd, k0, k1, k2, k3, k5, hC, hbm⟩ := hnew
  have K0 := I.kIn
  have kf : X.env.scope.kind = .function := I.ok.kind
  have es : X.env.scope = scope := by rw [he]
  have kks : X.env.kindOf "super" = some .globalImplicit := by rw [he]; exact ks
  have kkc : X.env.kindOf "__class__" = some .free := by rw [he]; exact kc
  have kka : X.env.kindOf ar.arg = some .local := by rw [he]; exact ka
  obtain ⟨mL, hns, hlk⟩ := I.loc
  have hself : mL ar.arg = some (.ref a) := by
    obtain ⟨u, ru, z⟩ := hlk 0 ar.arg (.ref a) h0 hv (.inl (by rw [es]; exact ka))
    cases ru
    rcases z with ⟨_, z⟩ | ⟨k, _⟩
    · exact z
    · rw [kka] at k
      rcases k with k | k <;> cases k
  have inst : PySem.W.InstAt s.heap a { cls := .ref D, dict := none, data := .fields #[.ref t1, .none, .none, .none, .bool false, .none] } D none := ⟨ho, rfl, rfl, trivial⟩
  have hInst : PySem.W.Looks (model X.prog X.w) s.heap (isInstance (.ref a) (.type "ValueError")) true := inst.type.andThen (PySem.W.looks_subIn K0 S.ve)
  have ne := PySem.W.ks_ne K0 inst hcD
  obtain ⟨oD, hD1, hD2⟩ : ∃ oD, s.heap.get? D = some oD ∧ oD.data = .cls cdD := by
    unfold PySem.W.clsIn at hcD
    split at hcD
    · rename_i c' d' cd' sl' h'
      cases hcD
      exact ⟨_, K0 _ _ h', rfl⟩
    · cases hcD
  refine ks_wpAt_Expr_any (ks_wpAt_MethodCall ?_ hev.ex.choose_spec) I.quiet hsw
  refine ks_wpAt_super_base (f := f) (cc := c) kks kkc rfl (by rw [he]) (K0 _ _ lk) rfl hp (by rw [he]) (K0 _ _ lc) rfl hvs hfile S.top ?_
  obtain ⟨mb, hb1, hb2⟩ := I.mod.blt
  refine PySem.W.ks_loadName_global kf kks (Calls.loadGlobal_builtin (by rw [I.ok.glob]; exact I.mod.glob.keeps I.bk) hm (by rw [I.ok.blt]; exact hb1.keeps I.bk) ((hb2 _ (by decide)).trans (show bootBuiltins "super" = some (.type "super") by decide +kernel)) ⟨rfl, ?_⟩)
  refine wpAny_loadName_free (c := cc) kf kkc (by rw [he]; rfl) ⟨_, K0 _ _ lcell, rfl⟩ ?_
  refine wpAny_loadName_local kf kka hns hself ?_
  refine ks_wpAny_isType_cls hD1 hD2 ⟨rfl, ?_⟩
  obtain ⟨hh, g, d, t, os⟩ := s
  refine ks_wpAny_call_super hD1 hD2 inst.at_ inst.cls (fun c e => by cases e) (PySem.W.looks_mroIn K0 S.mro) (fun h' eso k => ?_)
  have I1 : Inv X pins σ H ⟨h', g, d, t, os⟩ := I.kept (t' := t) k
  have K1 := I1.kIn
  have hal := S.sup
  unfold PySem.W.ks_superIn at hal
  rw [hcD, Option.bind_some] at hal
  have inst1 : PySem.W.InstAt h' a _ D none := ⟨k _ _ ho, rfl, rfl, trivial⟩
  have hI1 : PySem.W.Looks (model X.prog X.w) h' (isInstance (.ref a) (.type "ValueError")) true := inst1.type.andThen (PySem.W.looks_subIn K1 S.ve)
  refine PySem.W.kxs_getMethod PySem.W.kxs_ValueError eso (PySem.W.looks_opaque K1 S.opq) (l₀ := cdD.mro) (fun A Q E s k q => wpAny_bind ((PySem.W.looks_clsIn K1 hcD) A _ E s k (wpAny_pure q))) rfl K1 hal hI1 ne rfl ?_
  have k2 : ∀ b o, h'.get? b = some o → (h'.push (PySem.W.kxs_mw "ValueError.__init__" a)).get? b = some o := fun b o q => Heap.get?_push_of_some _ q
  have hu : (h'.push (PySem.W.kxs_mw "ValueError.__init__" a)).get? h'.objs.size = some (PySem.W.kxs_mw "ValueError.__init__" a) := Heap.get?_push_at rfl rfl
  have I2 : Inv X pins σ H ⟨h'.push (PySem.W.kxs_mw "ValueError.__init__" a), g, d, t + 1, os⟩ := I1.kept (t' := t + 1) k2
  refine PySem.W.kxs_callWith (i := "ValueError.__init__") (x := a) rfl (Calls.evalArgs_plain ?_)
  refine Calls.spliced_cons ((Calls.Constant_str (k := j) (pos := p3) (Calls.spliced_nil ?_)))
  refine ⟨hu, ?_⟩
  have hC2 := I2.kIn _ _ hC
  refine wpAny_call (codeAny_of_tree ?_)
  show wpAny _ _ (callAny (.ref h'.objs.size) ⟨_, []⟩) _ _ _
  simp only [callAny]
  refine wpAny_bind (wpAny_load hu ?_)
  simp only [PySem.W.kxs_mw, show (Value.type "method-wrapper" == Value.type "method" || Value.type "method-wrapper" == Value.type "builtin_function_or_method" || Value.type "method-wrapper" == Value.type "method-wrapper") = true by decide, if_true]
  refine PySem.W.KFB.if_so (by decide) ?_
  refine wpAny_bind (PySem.W.check_bound_init F.excBase_ValueError.toExcCallFacts hC2 (k2 _ _ (k _ _ ho)) rfl ?_)
  refine wpAny_bind (wpAny_pure (wpAny_pure ?_))
  refine ⟨plainId_quiet F.excBase_ValueError.init.plain _, codeAny_builtin F.excBase_ValueError.initEntry ?_⟩
  refine PySem.W.exc_init_tree (cls := .ref D) (t0 := t1) (dv := none) (c2 := .none) (c3 := .none) (b4 := .bool false) (k2 _ _ (k _ _ ho)) (by show 1 ≤ sizeLine; rw [sizeLine_eq]; omega) fun h3 k3 e3 _ => ?_
  have J := I2.write (t' := t + 1 + 1) (x := a) (e := a) (o := exo a D none) (by rw [e]; exact True.intro) (.inl rfl) k3 ⟨_, e3⟩ (exo_ok e3)
  have eu : upd H a (exo a D none) = H := upd_id e
  rw [eu] at J
  exact hq _ J
end
/-- super().__init__(m), then the rest -/
structure SupB (env : Env) (body rest : List Stmt) : Prop where
  ex : ∃ (p0 p1 p2 p3 p4 p5 : Pos) (m : Str) (j : Nat), body = .Expr (.Call (.Attribute (.Call (.Name "super" p0) [] [] p1) "__init__" p2) [.Constant (.str m) j p3] [] p4) p5 :: rest ∧ SupEv env p0 p1 p2 p3 p4 m j ∧
    swapsWith (.Call (.Attribute (.Call (.Name "super" p0) [] [] p1) "__init__" p2) [.Constant (.str m) j p3] [] p4) none p5.line env = pure false
def supNF (qual : Str) (params : Arguments) (body : List Stmt) (scope : Scope) (cc c : Addr) : NF := ⟨"__init__", qual, params, body, scope, [("__class__", cc)], c⟩
/-- what such an __init__ promises: t the reading of what follows super().__init__ -/
def spSup (K : PySem.W.Frag) (D : Addr) (N ps : List Str) (t : TS) : Sp := fun vs H Q _ => vs.length = ps.length ∧ ∃ (a : Addr) (tl : List V), vs = .ref a :: tl ∧ H a = some (exo a D none) ∧ OexC K D ∧ t { nx := fun _ H' => Q .non H', rt := Q } (startF N vs [some (.ref D)]) H
section
variable {P : Program} {w : World} {K : PySem.W.Frag} {mg : Str → Option Value} {base : Heap} {D f c cc : Addr} {qual : Str} {params : Arguments} {body rest : List Stmt} {scope : Scope} {fd : FuncData} {N ps : List Str} {k : Nat} {CX : CXT} {ar : Arg} {t : TS}
theorem fn_sup (S : SupF P K D f c cc qual params body scope fd) (NS : NScope N ps ["__class__"] scope) (hp : (params.posonlyargs ++ params.args).head? = some ar) (h0 : ps[0]? = some ar.arg) (hm : mg "super" = none)
    (ks : scope.names.lookup ("super" : Str) = some .globalImplicit) (hb : ∀ env, SupB env body rest)
    (hr : ∀ (A : Around) (outer : List Env) (s : Shared) (H : Hp) (E : XK), PSs (ncx CX P w K mg base N (supNF qual params body scope cc c) f A outer s H E) rest t) : FnOk P w K mg base CX (k + 1) f fd ps (spSup K D N ps t) := by
  obtain ⟨oc, od, kV, doc, pm, ct, an, osl, rfl, lk⟩ := S.fn
  obtain ⟨x1, x2, x3, lcell⟩ := S.cl
  refine ⟨fun vs H Q E h => h.1, fun A outer s H args us vs Q E rm e0 hbd r hsp => ?_⟩
  obtain ⟨hl, a, tl, ev, ha, T, q⟩ := hsp
  have KX : K.In s.heap := e0.mod.kin.keeps fun b o e => (e0.bs b o e).1
  have lim : s.heap.NoLimit := e0.mod.nolimit.keeps fun b o e => (e0.bs b o e).1
  have ka : scope.names.lookup ar.arg = some .local := NS.par _ (List.mem_of_getElem? h0)
  have h1 : 0 < ps.length := (List.getElem?_eq_some_iff.mp h0).1
  have hN0 : N[0]? = some ar.arg := by
    have h2 : (ps ++ [("__class__" : Str)])[0]? = some ar.arg := (List.getElem?_append_left h1).trans h0
    rw [← NS.pre, List.getElem?_take_of_lt (by omega)] at h2
    exact h2
  subst ev
  have hC : CellsAt [(("__class__" : Str), cc)] ["__class__"] [some (.ref D)] s.heap H := by
    refine ⟨rfl, fun y z e => ?_, fun x y z e1 e2 => ?_, fun i y e => ?_⟩
    · have hz := PySem.mem_of_lookup e
      rw [List.mem_singleton] at hz
      cases hz
      exact ⟨(e0.bs _ _ (e0.mod.kin _ _ lcell)).2, _, _, KX _ _ lcell, rfl⟩
    · have z1 := PySem.mem_of_lookup e1
      have z2 := PySem.mem_of_lookup e2
      rw [List.mem_singleton] at z1 z2
      cases z1; cases z2; rfl
    · have hi : i = 0 := by
        have := (List.getElem?_eq_some_iff.mp e).1
        simpa using this
      subst hi
      cases e
      refine ⟨cc, rfl, fun v ev => ?_⟩
      cases ev
      exact ⟨.ref D, rfl, _, KX _ _ lcell, rfl⟩
  refine ks_codeAny_call_defAt (body := body) (binds := ps.zip us) rm.depth (KX _ _ lk) rfl lim (PySem.W.codeRec_of KX S.cd) rfl hbd NS.nocell (fun ⟨n, _⟩ hy => NS.par n (List.of_mem_zip hy).1) (fun h₁ hns kp => ?_) NS.co NS.gen NS.kind
  have I : Inv (ncx CX P w K mg base N (supNF qual params body scope cc c) f A outer s H E) [] (startF N (.ref a :: tl) [some (.ref D)]) H { s with heap := h₁, toks := s.toks + (ps.zip us).length } := inv_startN NS rm.hd e0 hl r hC hns kp
  obtain ⟨p0, p1, p2, p3, p4, p5, m, j, eb, hev, hsw⟩ := (hb (ncx CX P w K mg base N (supNF qual params body scope cc c) f A outer s H E).env).ex
  have hq := (hr A outer s H E).run [] 
  show _root_.PySem.wpAt _ _ _ (execs body (ncx CX P w K mg base N (supNF qual params body scope cc c) f A outer s H E).env) _ _ _
  rw [show execs body (ncx CX P w K mg base N (supNF qual params body scope cc c) f A outer s H E).env = execs (_ :: rest) (ncx CX P w K mg base N (supNF qual params body scope cc c) f A outer s H E).env from by rw [eb]]
  refine ks_wpAt_execs_cons (sup_stmt (X := ncx CX P w K mg base N (supNF qual params body scope cc c) f A outer s H E) S T I ⟨_, rfl⟩ hp hN0 rfl ha ks (NS.frk _ (by simp)) ka hm hev hsw fun s' J => wpAt_of_wpAny ?_)
  refine wpAny_mono ((hr A outer s H E).run [] s' _ H _ J q) (fun fl s2 hs => ?_) fun e s2 hs => hs
  have fin : ∀ {σ' : L2.St} {H' : Hp} {v : V} {u : Value}, Inv (ncx CX P w K mg base N (supNF qual params body scope cc c) f A outer s H E) [] σ' H' s2 → RelV v u → Q v H' → CE outer P w H s Q u s2 :=
    fun {σ' H' v u} J rv q => ⟨v, H', J.os, J.bare, J.base, J.hok, rv, q⟩
  cases fl with
  | ret u =>
    obtain ⟨v, σ', H', J, rv, q⟩ := hs
    exact fin J rv q
  | next =>
    obtain ⟨σ', H', J, q⟩ := hs
    exact fin (v := V.non) (u := Value.none) J rfl q
  | brk =>
    obtain ⟨_, _, _, q⟩ := hs
    exact False.elim q
  | cont =>
    obtain ⟨_, _, _, q⟩ := hs
    exact False.elim q
end
end Nv
-- N30
namespace Nv
open PySem PySem.Spec PyProof.Rows L2 NdefX
open Evl (Ex)
/-- how the state lies behind an error's __init__ -/
def EndE (a C : Addr) (Hx : Hp) (fs : List (Str × V)) (H2 : Hp) : Prop := (fs = [] ∧ H2 = Hx) ∨
  (fs ≠ [] ∧ ∃ d : Addr, Hx d = none ∧ d ≠ a ∧ H2 a = some (exo a C (some d)) ∧ H2 d = some (exd d fs) ∧ ∀ b, b ≠ a → b ≠ d → H2 b = Hx b)
/-- t lays the fields ns -/
def FldsT (K : PySem.W.Frag) (C : Addr) (N ps : List Str) (t : TS) (ns : List Str) : Prop := ∀ (a : Addr) (ys : List V) (Hx : Hp) (E : XK), ys.length = ns.length → Hx a = some (exo a C none) →
  spSup K C N ps t (.ref a :: ys) Hx (fun v H2 => v = .non ∧ EndE a C Hx (ns.zip ys).reverse H2) E
section
variable {K : PySem.W.Frag} {C : Addr} {N : List Str} {s y f g : Str}
theorem flds1 (T : OexC K C) (hf : PySem.W.findIn K (.ref C) f = some none) : FldsT K C N [s, y] (tOst K f (tVar 0) (tVar 1)) [f] := fun a ys Hx E hl ha => by
  match ys, hl with
  | [v], _ =>
    refine ⟨rfl, a, [v], rfl, ha, T, v, rfl, .ref a, rfl, a, C, rfl, T, hf, .inl ⟨ha, fun d hd na => ⟨rfl, .inr ⟨by simp, d, hd, na, upd_same, ?_, fun b n1 n2 => ?_⟩⟩⟩⟩
    · rw [upd_ne na, upd_same]; rfl
    · rw [upd_ne n1, upd_ne n2]
theorem flds2 {z : Str} (T : OexC K C) (hf : PySem.W.findIn K (.ref C) f = some none) (hg : PySem.W.findIn K (.ref C) g = some none) :
    FldsT K C N [s, y, z] (tSeq (tOst K f (tVar 0) (tVar 1)) (tOst K g (tVar 0) (tVar 2))) [f, g] := fun a ys Hx E hl ha => by
  match ys, hl with
  | [v, u], _ =>
    refine ⟨rfl, a, [v, u], rfl, ha, T, v, rfl, .ref a, rfl, a, C, rfl, T, hf, .inl ⟨ha, fun d hd na => ⟨u, rfl, .ref a, rfl, a, C, rfl, T, hg, .inr ⟨d, [(f, v)], upd_same, ?_, by simp, rfl, .inr ⟨by simp, d, hd, na, ?_, upd_same, fun b n1 n2 => ?_⟩⟩⟩⟩⟩
    · rw [upd_ne na, upd_same]
    · rw [upd_ne (Ne.symm na), upd_same]
    · rw [upd_ne n2, upd_ne n1, upd_ne n2]
end
theorem passes_none {X : Cx} : Passes (L2.CX X.prog X.w) X (fun _ _ _ => False) := fun _ _ _ _ _ _ _ c => by
  obtain ⟨_, _, _, _, _, _, _, _, _, _, _, _, h⟩ := c
  exact h.elim
section
variable {X : Cx} {pins : List (Addr × Obj)} {σ : L2.St} {H1 H2 : Hp} {Q : XK}
/-- an error without fields is let go -/
theorem mk_endN {hp hp2 h2 : Heap} {g1 g2 : Array GenState} {d1 d2 : Drawn} {t1 t2 : Nat} {os1 os2 : OsState} {a C : Addr} (T : Raises X (.ref C)) (I1 : Inv X pins σ H1 ⟨hp, g1, d1, t1, os1⟩) (ha : hp.objs.size ≤ a)
    (k : ∀ b o, hp.get? b = some o → hp2.get? b = some o) (un : Un (frs X.stack) [] (upd H1 a (exo a C none)) (upd H1 a (exo a C none)) hp2 h2) (hok : HOk X.prog X.w (upd H1 a (exo a C none)) h2) (ho : os2 = os1) (hb : AllBare g2) (q : Q (.ref C) none H1) :
    MkP X pins σ Q (.ref a) ⟨h2, g2, d2, t2, os2⟩ := by
  have hn : H1 a = none := I1.hok.fresh ha
  obtain ⟨t0, hoe⟩ := exo_at hok (e := a) (C := C) (d := none) upd_same
  obtain ⟨G, r1, r2⟩ := restrict h2 fun b => decide (b ≠ a)
  have gk : ∀ b, b ≠ a → G.get? b = h2.get? b := fun b hb => r1 b (decide_eq_true hb)
  have ge : G.get? a = none := r2 a (by simp)
  have nha : ∀ {b : Addr} {o : Obj}, hp.get? b = some o → b ≠ a := fun {b o} z => Nat.ne_of_lt (Nat.lt_of_lt_of_le (Heap.lt_size z) ha)
  have ue : ∀ {b : Addr}, b ≠ a → upd H1 a (exo a C none) b = H1 b := fun {b} h => upd_ne h
  have U : Un (frs X.stack) [] H1 H1 hp G := {
    keep := fun b o z n f x => by rw [gk b (nha z)]; exact un.keep b o (k b o z) (by rw [ue (nha z)]; exact n) f x
    slot := fun b o z n f x => by rw [gk b (nha z)]; exact un.slot b o (k b o z) (by rw [ue (nha z)]; exact n) f x
    free := fun b o z n x => n
    there := fun b o z x => by rw [gk b (nha z)]; exact un.there b o (k b o z) x
    tups := fun b xs z => z
    frzs := fun b o v z => z
    tbls := fun b ps z => ⟨#[], by rw [z]; simp⟩ }
  have hokG : HOk X.prog X.w H1 G := fun b o z => by
    have hba : b ≠ a := fun e => by rw [e, hn] at z; cases z
    have noa : ∀ {c : Addr}, H1 c = some (.own b) → c ≠ a := fun {c} hc e => by rw [e, hn] at hc; cases hc
    have z' : upd H1 a (exo a C none) b = some o := by rw [ue hba]; exact z
    refine (hok b o z').stay (fun c v hc y => ?_) (fun c hc => ?_) (fun c xs hc => ?_)
    · have hca : c ≠ a := by
        rcases hc with hc | hc
        · rw [hc]; exact hba
        · exact at_ne (upd_same (H := H1) (o := exo a C none)) hc exo_own
      rw [gk c hca]; exact y
    · rw [ue (at_ne (upd_same (H := H1) (o := exo a C none)) hc exo_own)] at hc; exact hc
    · rw [ue (at_ne (upd_same (H := H1) (o := exo a C none)) hc exo_tup)] at hc; exact hc
  have J : Inv X pins σ H1 ⟨G, g2, d2, t2, os2⟩ := I1.call' (ch := []) ho U hokG hb (fun b z => absurd z (by simp))
  refine ⟨a, _, _, ⟨G, g2, d2, t2, os2⟩, H1, .ref C, none, rfl, J, fun b o z => ?_, ge, hoe, ⟨rfl, rfl⟩, rfl, rfl, hn, rfl, hb, T, q⟩
  by_cases hba : b = a
  · rw [hba, ge] at z; cases z
  · exact (gk b hba).symm.trans z
end
/-- an error's class that can be made: n its name, ns its fields, k how deep -/
structure ErrMk (P : Program) (w : World) (K : PySem.W.Frag) (mg : Str → Option Value) (base : Heap) (k : Nat) (n : Str) (ns : List Str) : Prop where
  ex : ∃ (C fI : Addr) (fd : FuncData) (N ps : List Str) (t : TS), mg n = some (.ref C) ∧ OexC K C ∧ PySem.W.findIn K (.ref C) "__init__" = some (some (.ref fI)) ∧ PySem.W.typeIn K (.ref fI) = some (.type "function") ∧
    FnOk P w K mg base (L2.CX P w) k fI fd ps (spSup K C N ps t) ∧ Binds K fd ps [] ∧ FldsT K C N ps t ns
/-- n(..): the error is made -/
def tErr (C : Addr) (ns : List Str) (ta : TA) : L2.St → Hp → XK → Prop := fun σ H Q => ta σ H fun vs H1 => vs.length = ns.length ∧ ns.length ≤ 900 ∧ (ns = [] → Q (.ref C) none H1) ∧ (ns ≠ [] → ∀ d, H1 d = none → Q (.ref C) (some d) (upd H1 d (.xd (ns.zip vs).reverse)))
section
variable {X : Cx} {pins : List (Addr × Obj)} {σ : L2.St} {H1 : Hp} {Q : XK} {C fI : Addr} {fd : FuncData} {N ps : List Str} {t : TS} {ns : List Str} {k : Nat} {us : List Value} {vs : List V} {s1 : Shared}
theorem run_err (T : OexC X.K C) (iC : PySem.W.findIn X.K (.ref C) "__init__" = some (some (.ref fI))) (tI : PySem.W.typeIn X.K (.ref fI) = some (.type "function")) (F1 : FnOk X.prog X.w X.K X.mg X.base (L2.CX X.prog X.w) k fI fd ps (spSup X.K C N ps t))
    (hb : Binds X.K fd ps []) (hF : FldsT X.K C N ps t ns) (hr : Room (k + 1) X.A) (I1 : Inv X pins σ H1 s1) (r1 : Vals vs us) (hl : vs.length = ns.length) (hz : ns.length ≤ 900) (q0 : ns = [] → Q (.ref C) none H1) (q1 : ns ≠ [] → ∀ d, H1 d = none → Q (.ref C) (some d) (upd H1 d (.xd (ns.zip vs).reverse))) :
    wpAny (model X.prog X.w) X.A (call (.ref C) us) (MkP X pins σ Q) X.xe s1 := by
  have TC := T
  obtain ⟨nm, qn, NC, bs, bm, sn, sub, ab, col, dd, k0, k1, k2, k3, k5, hC, hbm⟩ := T.cls
  obtain ⟨hp, g, dr, tk, os⟩ := s1
  generalize ea : hp.objs.size + 1 = a
  have hsz : hp.objs.size ≤ a := by omega
  have hn : H1 a = none := I1.hok.fresh hsz
  have kk : ∀ b o, hp.get? b = some o → ((hp.push (PySem.W.kdv_tup us)).push (PySem.HandSPX.excO C hp.objs.size)).get? b = some o := fun b o e => Heap.get?_push_of_some _ (Heap.get?_push_of_some _ e)
  have hget : ((hp.push (PySem.W.kdv_tup us)).push (PySem.HandSPX.excO C hp.objs.size)).get? a = some (PySem.HandSPX.excO C hp.objs.size) := by
    subst ea
    heap_get
  have I2 : Inv X pins σ (upd H1 a (exo a C none)) ⟨(hp.push (PySem.W.kdv_tup us)).push (PySem.HandSPX.excO C hp.objs.size), g, dr, tk, os⟩ := I1.laid (t' := tk) (a := a) (o := exo a C none) kk hsz (exo_ok hget)
  have hsp := hF a vs (upd H1 a (exo a C none)) (fun _ _ _ => False) hl upd_same
  have r2 : Vals (V.ref a :: vs) (Value.ref a :: us) := .cons rfl r1
  have hlen : (Value.ref a :: us).length = ps.length := r2.length.symm.trans (F1.len _ _ _ _ hsp)
  have hus : us.length ≤ sizeLine := by
    rw [← Paired.length r1, sizeLine_eq]
    omega
  refine wpAny_call (PySem.HandSPX.call_own F.excBase_ValueError (fun Y => PySem.HandSPX.refsVE_contains Y bm hbm) (I1.kIn _ _ hC) (PySem.W.looks_findIn I1.kIn iC) (fun self => PySem.W.bind_fn I1.kIn self tI) hus ?_)
  rw [ea]
  have hbd := hb ⟨(hp.push (PySem.W.kdv_tup us)).push (PySem.HandSPX.excO C hp.objs.size), g, dr, tk, os⟩ (Value.ref a :: us) I2.kIn (by rw [List.length_append]; simpa using hlen)
  rw [List.append_nil] at hbd
  refine codeAny_mono (F1.run _ X.stack _ _ ⟨Value.ref a :: us, []⟩ (Value.ref a :: us) _ _ (fun _ _ _ => False) (hr.make C us []) (I2.env0.make C us []) hbd r2 hsp) fun r s' hq' => ?_
  cases r with
  | error er => exact passes_none pins σ _ _ er s' I2 hq'
  | ok fl =>
    cases fl with
    | ret u =>
      obtain ⟨v, H2, os2, bare2, un2, hok2, rv, ev, fin⟩ := hq'
      subst ev
      obtain ⟨h2, g2, d2, t2, os'⟩ := s'
      refine ⟨rv, ?_⟩
      have R : Raises X (.ref C) := raises_own TC.exC TC.tyC
      rcases fin with ⟨e0, eH⟩ | ⟨n0, d, hd, na, fa, fdd, fo⟩
      · subst eH
        have ens : ns = [] := by
          have := congrArg List.length e0
          rw [List.length_reverse, List.length_zip, hl, Nat.min_self, List.length_nil] at this
          exact List.length_eq_zero_iff.mp this
        exact mk_endN R I1 hsz kk un2 hok2 os2 bare2 (q0 ens)
      · have ens : ns ≠ [] := fun e => n0 (by rw [e]; rfl)
        have hd1 : H1 d = none := by rw [upd_ne na] at hd; exact hd
        have eH : upd (del H2 a) d (.xd (ns.zip vs).reverse) = upd H1 d (.xd (ns.zip vs).reverse) := by
          funext b
          by_cases hbd : b = d
          · rw [hbd, upd_same, upd_same]
          · rw [upd_ne hbd, upd_ne hbd]
            by_cases hba : b = a
            · rw [hba, del_same, hn]
            · rw [del_ne hba, fo b hba hbd, upd_ne hba]
        exact mk_end R I1 hsz kk un2 hok2 os2 bare2 fa fdd hd1 (by rw [eH]; exact q1 ens d hd1)
    | next => exact False.elim hq'
    | brk => exact False.elim hq'
    | cont => exact False.elim hq'
end
section
variable {X : Cx} {e : Expr} {es : List Expr} {ta : TA} {x : Str} {p pos : Pos} {k : Nat} {ns : List Str}
theorem pmk_err (M : ErrMk X.prog X.w X.K X.mg X.base k x ns) (hr : Room (k + 1) X.A) (hg : Gl X x) (ha : PA X (e :: es) ta) (hdb : (x == ("__debug__" : Str)) = false := by decide)
    (h1 : starEach (e :: es) X.env = (false, eval e X.env) :: starEach es X.env := by rfl) (h2 : (backTo pos (starEach es X.env)).any (·.1) = false := by rfl) : ∃ C, X.mg x = some (.ref C) ∧ PMk X (.Call (.Name x p) (e :: es) [] pos) (tErr C ns ta) := by
  obtain ⟨C, fI, fd, N, ps, t, hm, T, iC, tI, F1, hb, hF⟩ := M.ex
  refine ⟨C, hm, fun pins s σ H Q I h => ?_⟩
  refine wpAny_Call_Name_kw (ld_glob I hg hm ?_ hdb)
  refine PySem.W.callWith_K (h₀ := X.base) I.ok.mod.kin T.kC (thn (ha.run pos pins _ σ H _ I h) fun us s1 ⟨vs, H1, I1, r1, hl, hz, q0, q1⟩ => ⟨I1.kIn, ?_⟩) h1 h2
  exact run_err T iC tI F1 hb hF hr I1 r1 hl hz q0 q1
end
end Nv
-- N31
namespace Nv
open PySem PySem.Spec PyProof.Rows L2 NdefX
open Evl (Ex)
def datsO : List OV → Option (List D)
  | [] => some []
  | .dat d :: r => (datsO r).map (d :: ·)
  | .slot _ :: _ => none
def raiseO (n : Str) (ns : List Str) (os : List OV) (Γ : Ev) : Out := match datsO os with
  | some ds => if ds.length = ns.length then .ex n (ns.zip ds).reverse Γ else .bad
  | none => .bad
def raiseS (n : Str) (ns : List Str) (f : Ev → Rs (List OV)) : Ev → Out := fun Γ => (f Γ).out fun os Γ => raiseO n ns os Γ
theorem datsO_reps {M : Md} {σ : L2.St} {F : Hp} : ∀ {os : List OV} {vs : List V} {ds : List D}, datsO os = some ds → ovsR M σ F vs os → Reps M F ds vs
  | [], [], _, h, _ => by cases h; exact Reps.nil
  | [], _ :: _, _, _, h => h.elim
  | .dat d :: r, [], _, _, h => h.elim
  | .dat d :: r, v :: vs, ds, h, hv => by
    unfold datsO at h
    cases hr : datsO r with
    | none => rw [hr] at h; cases h
    | some l =>
      rw [hr] at h
      cases h
      exact Reps.cons hv.1 (datsO_reps hr hv.2)
  | .slot _ :: _, _, _, h, _ => by cases h
theorem RepF.append {M : Md} {H : Hp} : ∀ {l m : List (Str × D)} {xs ys : List (Str × V)}, RepF M H l xs → RepF M H m ys → RepF M H (l ++ m) (xs ++ ys)
  | [], _, _, _, h, t => by
    unfold RepF at h
    subst h
    exact t
  | (f, d) :: l, _, _, _, h, t => by
    unfold RepF at h
    obtain ⟨v, r, rfl, h2, h3⟩ := h
    rw [List.cons_append, List.cons_append]
    unfold RepF
    exact ⟨v, _, rfl, h2, RepF.append h3 t⟩
theorem RepF.zipR {M : Md} {H : Hp} : ∀ {ns : List Str} {ds : List D} {vs : List V}, Reps M H ds vs → RepF M H (ns.zip ds).reverse (ns.zip vs).reverse
  | [], _, _, _ => by simp [RepF]
  | n :: ns, [], _, h => by
    cases reps_nil.mp h
    simp [RepF]
  | n :: ns, d :: ds, _, h => by
    obtain ⟨v, r, rfl, h1, h2⟩ := reps_cons.mp h
    rw [List.zip_cons_cons, List.zip_cons_cons, List.reverse_cons, List.reverse_cons]
    refine RepF.append (RepF.zipR h2) ?_
    unfold RepF
    exact ⟨v, [], rfl, h1, by unfold RepF; rfl⟩
section
variable {X : Cx} {c : Cf} {e : Expr} {es : List Expr} {p pos pos' : Pos} {k k' : Nat} {x : Str} {ns : List Str} {f : Ev → Rs (List OV)}
theorem rd_raise {C : Addr} {De : Ends} {σ : L2.St} {H : Hp} (hm : c.M.mg x = some (.ref C)) (hns : ns.length ≤ 900) (h : tS c (raiseS x ns f) De σ H) : tErr C ns (tR c (vrA c.M) f) σ H fun cls d H' => c.W cls d σ H' := by
  obtain ⟨F, Γ, r, q⟩ := h
  refine ⟨F, Γ, r, (PoS.out (R := vrA c.M) q).imp fun vs H1 ⟨F1, Γ1, os, r1, e1, a1, q1⟩ => ?_⟩
  unfold raiseO at q1
  split at q1
  · rename_i ds hd
    split at q1
    · rename_i hl
      have rp := datsO_reps hd a1
      have lv : vs.length = ns.length := by rw [rp.length, hl]
      refine ⟨lv, hns, fun e0 => ?_, fun n0 d hn => ?_⟩
      · subst e0
        exact q1 σ F1 H1 C none r1 e1 hm (.inl ⟨by simp, rfl⟩)
      · exact q1 σ (upd F1 d (.xd (ns.zip vs).reverse)) (upd H1 d (.xd (ns.zip vs).reverse)) C (some d) (r1.newF hn) (e1.trans (Ext.newF hn (r1.fr hn))) hm
          (.inr ⟨d, _, rfl, upd_same, RepF.zipR (rp.mono (Evl.Ex.new (r1.fr hn)))⟩)
    · exact q1.elim
  · exact q1.elim
theorem ds_raise (D : ErrMk X.prog X.w X.K X.mg X.base k x ns) (hk : k + 1 ≤ k') (hr : Room k' X.A) (tk : Takes X c.W) (hc : X.calm = true) (hM : c.M = ⟨X.K, X.mg⟩) (ha : DA X c (e :: es) f) (hg : Gl X x := by rfl) (hns : ns.length ≤ 900 := by decide)
    (hdb : (x == ("__debug__" : Str)) = false := by decide) (h1 : starEach (e :: es) X.env = (false, eval e X.env) :: starEach es X.env := by rfl) (h2 : (backTo pos (starEach es X.env)).any (·.1) = false := by rfl) :
    DS X c (.Raise (some (.Call (.Name x p) (e :: es) [] pos)) none pos') (raiseS x ns f) := by
  obtain ⟨C, hm, pk⟩ := pmk_err (p := p) D (hr.mono hk) hg ha hdb h1 h2
  exact PS.of (ps_raise hc tk pk) fun De σ H q => rd_raise (by rw [hM]; exact hm) hns q
end
end Nv
-- N32
namespace Nv
open PySem PySem.Spec PyProof.Rows L2 NdefX
open Evl (Ex)
section
variable {X : Cx} {pins : List (Addr × Obj)} {σ : L2.St} {H : Hp} {s' sI : Shared} {B : Heap} {a C : Addr} {d : Option Addr} {oe : Obj} {vs : Array Value}
end
/-- one clause: its class, the slot of its name, its suite -/
structure Cla where
  c : Value
  i : Option Nat
  ts : TS
def offS (i : Option Nat) (σ : L2.St) : L2.St := match i with
  | some j => σ.set j none
  | none => σ
section
variable {X : Cx} {body : List Stmt} {h0 : ExceptHandler} {hds : List ExceptHandler} {l : List Cla} {pos : Pos} {tb : WX → TS} {Wout : WX}
end
end Nv
-- N33
namespace Nv
open PySem PySem.Spec PyProof.Rows L2 NdefX
open Evl (Ex)
/-- an error n is an m -/
def errSub (n m : Str) : Bool := n == m || m == ("MissError" : Str)
abbrev TryCl := Str × Option Nat × (Ev → Out)
/-- a name is set, or none is there -/
def putN (i : Option Nat) (d : D) (Γ : Ev) : Option Ev := match i with
  | none => some Γ
  | some j => setG Γ j (.dat d)
def offN (i : Option Nat) (Γ : Ev) : Option Ev := match i with
  | none => some Γ
  | some j => if setOk Γ j = true then some (Γ.set j .un) else none
/-- behind an except suite -/
def offX (k : Ev → Out) (i : Option Nat) (Γ : Ev) : Out := match offN i Γ with
  | some Γ => k Γ
  | none => .bad
def endT (i : Option Nat) : Out → Out
  | .nx Γ => offX .nx i Γ
  | .bk Γ => offX .bk i Γ
  | .ct Γ => offX .ct i Γ
  | .rt av Γ => .rt av Γ
  | .ex _ _ _ => .bad
  | .bad => .bad
def goT (n : Str) (l : List (Str × D)) (Γ : Ev) : List TryCl → Out
  | [] => .ex n l Γ
  | k :: r => if errSub n k.1 = true then (match putN k.2.1 (.exn n l) Γ with
    | some Γ1 => endT k.2.1 (k.2.2 Γ1)
    | none => .bad) else goT n l Γ r
def tryO (L : List Str) (cs : List TryCl) : Out → Out
  | .ex n l Γ => if n ∈ L then goT n l Γ cs else .bad
  | o => o
def tryS (L : List Str) (body : Ev → Out) (cs : List TryCl) : Ev → Out := fun Γ => tryO L cs (body Γ)
section
variable {c : Cf} {σ : L2.St} {F H : Hp} {Γ : Ev} {De : Ends} {L : List Str}
theorem off_rel {M : Md} {σ0 : L2.St} {i : Option Nat} {Γ' : Ev} (r : Rel M σ0 F H σ Γ) (h : offN i Γ = some Γ') : Rel M σ0 F H (offS i σ) Γ' ∧ ∀ b, own (offS i σ) Γ' b → own σ Γ b := by
  cases i with
  | none =>
    cases h
    exact ⟨r, fun _ z => z⟩
  | some j =>
    unfold offN at h
    dsimp only at h
    split at h
    · cases h
      refine ⟨rel_wipe (vs := [j]) (hs := [j]) r (fun _ z => z), fun b ⟨k, t, o, g1, g2⟩ => ?_⟩
      by_cases z : j = k
      · subst z
        have hj : j < Γ.length := by
          have := (List.getElem?_eq_some_iff.mp g1).1
          rwa [List.length_set] at this
        rw [List.getElem?_set_self hj] at g1; cases g1
      · rw [List.getElem?_set_ne z] at g1
        refine ⟨k, t, o, g1, ?_⟩
        have g2' : (σ.set j none)[k]? = some (some (.ref b)) := g2
        rw [List.getElem?_set_ne z] at g2'
        exact g2'
    · cases h
theorem PoS.endT {i : Option Nat} {o : Out} (h : PoS c σ F H Γ (Nv.endT i o) De) : PoS c.calm σ F H Γ o { nx := fun σ H => De.nx (offS i σ) H, rt := De.rt, bk := fun σ H => De.bk (offS i σ) H, ct := fun σ H => De.ct (offS i σ) H } := by
  cases o with
  | nx Γ1 =>
    intro σ' F' H' r e
    have h2 : PoS c σ F H Γ (offX .nx i Γ1) De := h
    unfold offX at h2
    split at h2
    · rename_i Γ2 ho
      obtain ⟨r2, o2⟩ := off_rel r ho
      exact h2 _ F' H' r2 (e.own fun b z => .inl (o2 b z))
    · exact h2.elim
  | bk Γ1 =>
    intro σ' F' H' r e
    have h2 : PoS c σ F H Γ (offX .bk i Γ1) De := h
    unfold offX at h2
    split at h2
    · rename_i Γ2 ho
      obtain ⟨r2, o2⟩ := off_rel r ho
      exact h2 _ F' H' r2 (e.own fun b z => .inl (o2 b z))
    · exact h2.elim
  | ct Γ1 =>
    intro σ' F' H' r e
    have h2 : PoS c σ F H Γ (offX .ct i Γ1) De := h
    unfold offX at h2
    split at h2
    · rename_i Γ2 ho
      obtain ⟨r2, o2⟩ := off_rel r ho
      exact h2 _ F' H' r2 (e.own fun b z => .inl (o2 b z))
    · exact h2.elim
  | rt av Γ1 => exact h
  | ex n l Γ1 => exact h.elim
  | bad => exact h.elim
end
section
variable {X : Cx} {c : Cf} {body : List Stmt} {h0 : ExceptHandler} {hds : List ExceptHandler} {pos : Pos} {L : List Str} {fb : Ev → Out} {cs : List TryCl}
end
end Nv
-- N34
namespace Nv
open PySem PySem.Spec PyProof.Rows L2 NdefX
open Evl (Ex)
section
variable {prog : Program} {w : World} {A : Around} {E : Value → Shared → Prop} {s : Shared} {K : PySem.W.Frag} {x D : Addr} {ox : Obj} {od : Option Obj}
end
section
variable {X : Cx} {pins : List (Addr × Obj)} {σ : L2.St} {H : Hp} {s : Shared} {a C : Addr} {dx : Option Addr} {fs : List (Str × V)}
end
/-- what the module says of an error's class, for its fields and for isinstance -/
structure ErrC (M : Md) (n : Str) (ns : List Str) : Prop where
  ex : ∃ C, M.mg n = some (.ref C) ∧ XfC M.K C ∧ ExcC M.K C ∧ (∀ f ∈ ns, PySem.W.findIn M.K (.ref C) f = some none) ∧ PySem.W.kitOne M.K (.ref C) (.type "ValueError") = some true
/-- f of an error n among L -/
def gXf (L : List (Str × List Str)) (f : Str) : D → Option AV
  | .exn n l => (match L.lookup n with
    | some ns => if f ∈ ns then (l.lookup f).map .dat else none
    | none => none)
  | _ => none
def Errs (M : Md) (L : List (Str × List Str)) : Prop := ∀ p ∈ L, ErrC M p.1 p.2
section
variable {X : Cx} {c : Cf} {e : Expr} {es : List Expr} {pos p : Pos} {f : Ev → Rs (List OV)} {L : List (Str × List Str)} {ms : List Str}
end
end Nv
-- N35
namespace Nv
open PySem PySem.Spec PyProof.Rows L2 NdefX
open Evl (Ex)
section
variable {K : PySem.W.Frag} {C D : Addr} {b : Bool} {n m : Str} {mg : Str → Option Value}
theorem kit_ve (s : PySem.W.subIn K (.ref C) (.type "ValueError") = some true) : PySem.W.kitOne K (.ref C) (.type "ValueError") = some true := by
  unfold PySem.W.kitOne PySem.W.kitCls
  rw [if_neg (by simp)]
  dsimp only
  rw [if_pos (by decide +kernel)]
  exact s
end
/-- what all_mk gathers of an error's class at C -/
structure ErrK (K : PySem.W.Frag) (C : Addr) : Prop where
  ox : OexC K C
  xf : XfC K C
  xc : ExcC K C
section
variable {P : Program} {w : World} {K : PySem.W.Frag} {mg : Str → Option Value} {base : Heap} {n f g y z qual : Str} {C fI c cc : Addr} {fd : FuncData} {params : Arguments} {body : List Stmt} {scope : Scope}
theorem err1 (T : OexC K C) (hmg : mg n = some (.ref C)) (iC : PySem.W.findIn K (.ref C) "__init__" = some (some (.ref fI))) (tI : PySem.W.typeIn K (.ref fI) = some (.type "function")) (S : SupF P K C fI c cc qual params body scope fd) (hB : Binds K fd ["self", y] [])
    (NS : NScope ["self", y, "__class__"] ["self", y] ["__class__"] scope) (hp : ∃ ar, (params.posonlyargs ++ params.args).head? = some ar ∧ ar.arg = "self") (hm : mg "super" = none) (ks : scope.names.lookup ("super" : Str) = some .globalImplicit)
    (hb : ∃ q1 q2 q3 q4, ∀ env, SupB env body [.Assign [.Attribute (.Name "self" q1) f q2] (.Name y q3) q4]) (hf : PySem.W.findIn K (.ref C) f = some none) (hy : (y == ("__debug__" : Str)) = false ∧ (y == ("__classdict__" : Str)) = false := by decide) : ErrMk P w K mg base 1 n [f] := by
  obtain ⟨ar, hp, ha⟩ := hp
  obtain ⟨q1, q2, q3, q4, hb⟩ := hb
  exact ⟨C, fI, fd, _, _, _, hmg, T, iC, tI, fn_sup S NS hp (by rw [ha]; rfl) hm ks hb (fun _ _ _ _ _ => pss_one (ps_ost (pe_var rfl (.inl (NS.par _ (by simp)))) (pe_var rfl (.inl (NS.par _ (by simp))) hy.1 hy.2))), hB, flds1 T hf⟩
theorem err2 (T : OexC K C) (hmg : mg n = some (.ref C)) (iC : PySem.W.findIn K (.ref C) "__init__" = some (some (.ref fI))) (tI : PySem.W.typeIn K (.ref fI) = some (.type "function")) (S : SupF P K C fI c cc qual params body scope fd) (hB : Binds K fd ["self", y, z] [])
    (NS : NScope ["self", y, z, "__class__"] ["self", y, z] ["__class__"] scope) (hp : ∃ ar, (params.posonlyargs ++ params.args).head? = some ar ∧ ar.arg = "self") (hm : mg "super" = none) (ks : scope.names.lookup ("super" : Str) = some .globalImplicit)
    (hb : ∃ q1 q2 q3 q4 r1 r2 r3 r4, ∀ env, SupB env body [.Assign [.Attribute (.Name "self" q1) f q2] (.Name y q3) q4, .Assign [.Attribute (.Name "self" r1) g r2] (.Name z r3) r4]) (hf : PySem.W.findIn K (.ref C) f = some none) (hg : PySem.W.findIn K (.ref C) g = some none)
    (hy : (y == ("__debug__" : Str)) = false ∧ (y == ("__classdict__" : Str)) = false := by decide) (hz : (z == ("__debug__" : Str)) = false ∧ (z == ("__classdict__" : Str)) = false := by decide) : ErrMk P w K mg base 1 n [f, g] := by
  obtain ⟨ar, hp, ha⟩ := hp
  obtain ⟨q1, q2, q3, q4, r1, r2, r3, r4, hb⟩ := hb
  exact ⟨C, fI, fd, _, _, _, hmg, T, iC, tI, fn_sup S NS hp (by rw [ha]; rfl) hm ks hb (fun _ _ _ _ _ => pss_cons (ps_ost (pe_var rfl (.inl (NS.par _ (by simp)))) (pe_var rfl (.inl (NS.par _ (by simp))) hy.1 hy.2))
    (pss_one (ps_ost (pe_var rfl (.inl (NS.par _ (by simp)))) (pe_var rfl (.inl (NS.par _ (by simp))) hz.1 hz.2)))), hB, flds2 T hf hg⟩
theorem ErrK.toC (E : ErrK K C) {ns : List Str} (hmg : mg n = some (.ref C)) (hf : ∀ f ∈ ns, PySem.W.findIn K (.ref C) f = some none) (ve : PySem.W.subIn K (.ref C) (.type "ValueError") = some true) : ErrC ⟨K, mg⟩ n ns := ⟨C, hmg, E.xf, E.xc, hf, kit_ve ve⟩
end
section
variable {X : Cx} {c : Cf} {body : List Stmt} {h0 : ExceptHandler} {hds : List ExceptHandler} {pos : Pos} {L A : List Str} {fb : Ev → Out} {cs : List TryCl}
theorem all_cons {α : Type} {Q : α → Prop} {a : α} {l : List α} (h : Q a) (t : ∀ x ∈ l, Q x) : ∀ x ∈ a :: l, Q x := List.forall_mem_cons.mpr ⟨h, t⟩
theorem all_nil {α : Type} {Q : α → Prop} : ∀ x ∈ ([] : List α), Q x := fun _ h => nomatch h
end
end Nv
-- N36
namespace Nv
open PySem PySem.Spec PyProof.Rows L2
open Evl (Ex)
/-- a builtin method with one argument; tyD: what it is asked of -/
def mth1O (tyD : D → Bool) (g : D → D → Option AV) (f1 f2 : Ev → Rs OV) : Ev → Rs AV := fun Γ => (f1 Γ).bind fun o1 Γ => match o1.get Γ with
  | some d => if tyD d = true then (f2 Γ).bind fun o2 Γ => op2R g o1 o2 Γ else .bad
  | none => .bad
section
variable {X : Cx} {c : Cf} {o e : Expr} {pos apos : Pos} {name : Str} {T id : String} {r : V → List V → Hp → VK → Prop} {g : D → D → Option AV} {tyD : D → Bool} {f1 f2 : Ev → Rs OV}
theorem rd_m1 (hO : O2 c.M (fun x y H Q => r x [y] H Q) g) (hty : ∀ d v F H, tyD d = true → Rep1 c.M F H d v → Ex F H → tyV c.M.K T v H) {σ : L2.St} {H : Hp} {Q : VK} (h : tR c (vrO c.M) (mth1O tyD g f1 f2) σ H Q) :
    tBM c.M.K T r (tR c (vrB c.M) f1) (tCons (tR c (vrB c.M) f2) tNil) σ H Q := by
  obtain ⟨F, Γ, rl, q⟩ := h
  refine ⟨F, Γ, rl, (Po.bind (R := vrB c.M) q).imp fun x H1 ⟨F1, Γ1, o1, r1, e1, a1, q1⟩ => ?_⟩
  split at q1
  · rename_i d hd
    split at q1
    · rename_i ht
      refine ⟨hty d x F1 H1 ht (get_rep r1 hd a1) r1.sub, F1, Γ1, r1, ?_⟩
      refine (Po.bind (R := vrB c.M) (Po.shift sh_O e1 q1)).imp fun y H2 ⟨F2, Γ2, o2, r2, e2, a2, q2⟩ => ?_
      exact po_op2 hO r2 e2 (a1.ext e2.ff) a2 q2
    · exact q1.elim
  · exact q1.elim
theorem do_m1 (pa : PlainAttrs T) (slot : PySem.Slot T name id) (ty : typeOf (.builtin id) = pure (.type "method_descriptor")) (hm : MtR X id r) (hM : c.M = ⟨X.K, X.mg⟩) (hO : O2 c.M (fun x y H Q => r x [y] H Q) g)
    (hty : ∀ d v F H, tyD d = true → Rep1 c.M F H d v → Ex F H → tyV c.M.K T v H) (ho : DB X c o f1) (he : DB X c e f2) (hbase : attributeBase o name X.env (eval o X.env) = eval o X.env := by rfl)
    (hfew : ((backTo pos (starEach [e] X.env)).all (fun x => !x.1) && (backToKw pos (keywordEach [] X.env)).all (fun x => x.1.isSome) && decide ([e].length + ([] : List Keyword).length + (if ([] : List Keyword).isEmpty then 0 else 1) < 30)) = true := by rfl)
    (hline : (apos.endLine == pos.line) = true := by rfl) (hs : starEach [e] X.env = (false, eval e X.env) :: starEach [] X.env := by rfl) (hp : (backTo pos (starEach [] X.env)).any (·.1) = false := by rfl) :
    DO X c (.Call (.Attribute o name apos) [e] [] pos) (mth1O tyD g f1 f2) :=
  PE.of (pe_bm pa slot ty hm ho (pa_cons he pa_nil hs) hbase hfew hline hs hp) fun σ H Q q => by
    have z := rd_m1 (T := T) hO hty q
    rw [hM] at z
    rw [hM]
    exact z
def gIdxS : D → D → Option AV
  | .str x, .str y => (match Builtin.Str.occurrences x y 0 x.length 1 with
    | i :: _ => some (.dat (.int (i : Nat)))
    | [] => none)
  | _, _ => none
def isS : D → Bool
  | .str _ => true
  | _ => false
def isL : D → Bool
  | .lst _ => true
  | _ => false
theorem isS_ty {M : Md} : ∀ d v F H, isS d = true → Rep1 M F H d v → Ex F H → tyV M.K "str" v H := fun d v F H h r s => by
  cases d <;> first | cases h | skip
  obtain ⟨rfl, _⟩ := r1_str r
  rfl
theorem o2_idxS {M : Md} : O2 M (fun x y H Q => ∃ a b i rest, x = .str a ∧ [y] = [.str b] ∧ Builtin.Str.occurrences a b 0 a.length 1 = i :: rest ∧ Q (.int (i : Nat)) H) gIdxS := by
  intro F H x y d1 d2 av Q sub r1 r2 e h
  unfold gIdxS at e
  split at e
  · rename_i a b
    split at e
    · rename_i i rest ho
      cases e
      obtain ⟨rfl, _⟩ := r1_str r1
      obtain ⟨rfl, _⟩ := r1_str r2
      exact ⟨a, b, i, rest, rfl, rfl, ho, fin_dat sub h (rep_int.mpr rfl)⟩
    · cases e
  · cases e
theorem do_idxS (hM : c.M = ⟨X.K, X.mg⟩) (ho : DB X c o f1) (he : DB X c e f2) (hbase : attributeBase o "index" X.env (eval o X.env) = eval o X.env := by rfl)
    (hfew : ((backTo pos (starEach [e] X.env)).all (fun x => !x.1) && (backToKw pos (keywordEach [] X.env)).all (fun x => x.1.isSome) && decide ([e].length + ([] : List Keyword).length + (if ([] : List Keyword).isEmpty then 0 else 1) < 30)) = true := by rfl)
    (hline : (apos.endLine == pos.line) = true := by rfl) (hs : starEach [e] X.env = (false, eval e X.env) :: starEach [] X.env := by rfl) (hp : (backTo pos (starEach [] X.env)).any (·.1) = false := by rfl) :
    DO X c (.Call (.Attribute o "index" apos) [e] [] pos) (mth1O isS gIdxS f1 f2) :=
  do_m1 PySem.F.plainAttrs_str PySem.F.slot_str_index PySem.F.type_str_index mt_sindex hM o2_idxS isS_ty ho he hbase hfew hline hs hp
end
def gFmt : D → Option AV
  | .str y => if y.length ≤ sizeLine then some (.dat (.str y)) else none
  | .int i => if i.natAbs.log2 < 1920 then some (.dat (.str (Str.ofString (toString i)))) else none
  | _ => none
def fjs : List (Ev → Rs AV) → Str → Ev → Rs AV
  | [], acc, Γ => .ok (.dat (.str acc)) Γ
  | f :: r, acc, Γ => (f Γ).bind fun av Γ1 => match av with
    | .dat (.str y) => if (acc ++ y).length ≤ sizeLine then fjs r (acc ++ y) Γ1 else .bad
    | _ => .bad
def fstrO (fs : List (Ev → Rs AV)) : Ev → Rs AV := fjs fs Str.empty
section
variable {X : Cx} {c : Cf} {e : Expr} {es : List Expr} {pos : Pos} {f : Ev → Rs OV} {fs : List (Ev → Rs AV)}
end
section
variable {X : Cx} {c : Cf} {e : Expr} {es : List Expr} {pos p : Pos} {f : Ev → Rs (List OV)} {L : List Str}
end
end Nv
-- N37
namespace Nv
open PySem PySem.Spec PyProof.Rows L2
section
variable {Γ : Ev} {b b1 b2 : Ev → Rs OV} {as : Ev → Rs (List OV)} {f : Ev → Out} {o1 o2 ov : OV} {os : List OV} {ty : D → Bool} {g : D → D → Option AV} {n m : Str} {ns L : List Str} {cs : List TryCl} {l : List D} {acc : Str} {fs : List (Ev → Rs AV)} {a : Ev → Rs AV}
def kStar2 (l : List D) (os : List OV) (Γ : Ev) : Rs (List OV) := .ok (l.map OV.dat ++ os) Γ
theorem kStar2_ap : kStar2 l os Γ = .ok (l.map OV.dat ++ os) Γ := rfl
def kStar (as : Ev → Rs (List OV)) (ov : OV) (Γ : Ev) : Rs (List OV) := match starR ov Γ with
  | some l => (as Γ).bind (kStar2 l)
  | none => .bad
theorem kStar_ap : kStar as ov Γ = match starR ov Γ with
  | some l => (as Γ).bind (kStar2 l)
  | none => .bad := rfl
theorem starA_ap : starA b as Γ = (b Γ).bind (kStar as) := rfl
def kM2 (g : D → D → Option AV) (o1 o2 : OV) (Γ : Ev) : Rs AV := op2R g o1 o2 Γ
theorem kM2_ap : kM2 g o1 o2 Γ = op2R g o1 o2 Γ := rfl
def kM1 (ty : D → Bool) (g : D → D → Option AV) (b2 : Ev → Rs OV) (o1 : OV) (Γ : Ev) : Rs AV := match o1.get Γ with
  | some d => if ty d = true then (b2 Γ).bind (kM2 g o1) else .bad
  | none => .bad
theorem kM1_ap : kM1 ty g b2 o1 Γ = match o1.get Γ with
  | some d => if ty d = true then (b2 Γ).bind (kM2 g o1) else .bad
  | none => .bad := rfl
theorem mth1O_ap : mth1O ty g b1 b2 Γ = (b1 Γ).bind (kM1 ty g b2) := rfl
def kFjs (fs : List (Ev → Rs AV)) (acc : Str) (av : AV) (Γ : Ev) : Rs AV := match av with
  | .dat (.str y) => if (acc ++ y).length ≤ sizeLine then fjs fs (acc ++ y) Γ else .bad
  | _ => .bad
theorem kFjs_ap {y : Str} : kFjs fs acc (.dat (.str y)) Γ = if (acc ++ y).length ≤ sizeLine then fjs fs (acc ++ y) Γ else .bad := rfl
theorem fjs_nil : fjs [] acc Γ = .ok (.dat (.str acc)) Γ := rfl
theorem fjs_cons : fjs (a :: fs) acc Γ = (a Γ).bind (kFjs fs acc) := rfl
theorem fstrO_ap : fstrO fs Γ = fjs fs (SX.S []) Γ := rfl
def kRaise (n : Str) (ns : List Str) (os : List OV) (Γ : Ev) : Out := raiseO n ns os Γ
theorem kRaise_ap : kRaise n ns os Γ = raiseO n ns os Γ := rfl
theorem raiseS_ap2 : raiseS n ns as Γ = (as Γ).out (kRaise n ns) := rfl
theorem tryS_ap : tryS L f cs Γ = tryO L cs (f Γ) := rfl
theorem tryO_nx : tryO L cs (.nx Γ) = .nx Γ := rfl
theorem tryO_rt {av : AV} : tryO L cs (.rt av Γ) = .rt av Γ := rfl
theorem tryO_ex {l : List (Str × D)} : tryO L cs (.ex n l Γ) = if n ∈ L then goT n l Γ cs else .bad := rfl
theorem endT_rt {av : AV} {i : Option Nat} : endT i (.rt av Γ) = .rt av Γ := rfl
theorem endT_nx {i : Option Nat} : endT i (.nx Γ) = offX .nx i Γ := rfl
end
theorem dats_map : ∀ {l : List D} {os : List OV}, dats (l.map OV.dat ++ os) = (dats os).map (l ++ ·)
  | [], os => by
    cases h : dats os <;> simp [h]
  | d :: l, os => by
    rw [List.map_cons, List.cons_append, dats, dats_map]
    cases dats os <;> rfl
section
variable {l : List Tx} {a b : Tx} {n c : Nat}
theorem numT (n : Nat) : Str.ofString (toString ((n : Nat) : Int)) = SX.S (TL.numL n) := SX.num_S n
theorem log1920 (h : n < 2 ^ 62) : ((n : Nat) : Int).natAbs.log2 < 1920 := by
  rw [Int.natAbs_natCast]
  by_cases z : n = 0
  · subst z; decide
  · have := (Nat.log2_lt z).mpr h
    omega
theorem gStr_S : gStr (tD a) = some (.dat (tD a)) := rfl
theorem gStr_n (h : n < 4611686018427387904) : gStr (.int (n : Nat)) = some (.dat (tD (TL.numL n))) := by
  unfold gStr
  dsimp only
  rw [if_pos (log1920 h), numT]
theorem gFmt_S (h : a.length ≤ sizeLine) : gFmt (tD a) = some (.dat (tD a)) := by
  unfold gFmt
  dsimp only
  rw [S_length, if_pos h]
theorem gFmt_n (h : n < 4611686018427387904) : gFmt (.int (n : Nat)) = some (.dat (tD (TL.numL n))) := by
  unfold gFmt
  dsimp only
  rw [if_pos (log1920 h), numT]
theorem gSort_S (h : l.length < 64) : gSort (.lst (l.map tD)) = some (.own (.lst ((sortT l).map tD))) := by
  unfold gSort txtsOf
  dsimp only
  rw [strsO_map]
  dsimp only
  rw [List.length_map, if_pos h, sortS_S, List.map_map]
  rfl
end
/-- the first place of a sign -/
theorem occ_first (s sub : Str) (hi : Nat) : ∀ (l : List Nat) (free : Nat), (∀ i ∈ l, free ≤ i) →
    (forIn l ((#[] : Array Nat), free) (StrLaws.occBody s sub hi 1)).run.fst.toList = (match l.find? fun i => decide (i + sub.length ≤ hi ∧ Builtin.Str.subAt s sub i = true) with
      | some i => [i]
      | none => [])
  | [], free, _ => rfl
  | a :: l, free, hf => by
    rw [List.forIn_cons]
    unfold StrLaws.occBody
    have ha : free ≤ a := hf a List.mem_cons_self
    have full : ∀ (l : List Nat) (x y : Nat), (forIn l ((#[x] : Array Nat), y) (StrLaws.occBody s sub hi 1)).run.fst = #[x] := by
      intro l
      induction l with
      | nil => intro x y; rfl
      | cons b l ih =>
        intro x y
        rw [List.forIn_cons]
        unfold StrLaws.occBody
        rw [if_neg (by simp)]
        exact ih x y
    by_cases hc : a + sub.length ≤ hi ∧ Builtin.Str.subAt s sub a = true
    · rw [if_pos ⟨⟨⟨by simp, ha⟩, hc.1⟩, hc.2⟩, List.find?_cons_of_pos (by simpa using hc)]
      show (forIn l ((#[a] : Array Nat), a + sub.length) (StrLaws.occBody s sub hi 1)).run.fst.toList = [a]
      rw [full]
    · rw [if_neg (fun h => hc ⟨h.1.2, h.2⟩), List.find?_cons_of_neg (by simpa using hc)]
      exact occ_first s sub hi l free fun i hi' => hf i (List.mem_cons_of_mem _ hi')
theorem occ_sign (a : Tx) (c : Nat) (h : c ∈ a) : Builtin.Str.occurrences (SX.S a) (SX.S [c]) 0 (SX.S a).length 1 = [a.idxOf c] := by
  rw [StrLaws.occ_eq, occ_first _ _ _ _ 0 (fun _ _ => Nat.zero_le _)]
  have hl : (SX.S a).length = a.length := S_length
  have hi : a.idxOf c < a.length := List.idxOf_lt_length_iff.mpr h
  have key : ∀ i, (decide (i + (SX.S [c]).length ≤ (SX.S a).length ∧ Builtin.Str.subAt (SX.S a) (SX.S [c]) i = true)) = decide (a[i]? = some c) := fun i => by
    rw [Bool.eq_iff_iff, decide_eq_true_eq, decide_eq_true_eq]
    exact StrLaws.subAt_one (SX.S a) c i
  simp only [key]
  have hf : (List.range' 0 ((SX.S a).length + 1 - 0)).find? (fun i => decide (a[i]? = some c)) = some (a.idxOf c) := by
    rw [List.find?_eq_some_iff_getElem]
    refine ⟨by simp [List.getElem?_eq_getElem hi, List.getElem_idxOf hi], a.idxOf c, by simp [hl]; omega, by simp, fun j hj => ?_⟩
    simp only [List.getElem_range', Nat.zero_add, Nat.one_mul, Bool.not_eq_true', decide_eq_false_iff_not]
    intro z
    have hj2 : j < a.length := by omega
    rw [List.getElem?_eq_getElem hj2] at z
    have := List.not_of_lt_findIdx (p := (· == c)) (xs := a) (i := j) (by exact hj)
    simp at this
    exact this (Option.some.inj z)
  rw [hf]
theorem idxS_ok {a : Tx} {c : Nat} (h : c ∈ a) : gIdxS (tD a) (cD c) = some (.dat (.int (a.idxOf c : Nat))) := by
  show (match Builtin.Str.occurrences (SX.S a) (SX.S [c]) 0 (SX.S a).length 1 with
    | i :: _ => some (AV.dat (D.int (i : Nat)))
    | [] => none) = _
  rw [occ_sign a c h]
section
variable {α ι : Type} {gd : TgF} {t : Ev → Rs Bool} {body : α → Ev → Option (α × Ev)}
/-- a comprehension without a test, told by what is gathered -/
theorem loopN_go {Γ0 Γ : Ev} (e : ι → D) (nxt : α → ι → α) (I : List ι → α → Prop)
    (h : ∀ x xs acc, I (x :: xs) acc → (∃ Γ1, gd (e x) Γ = some Γ1 ∧ ∃ Γ2, t Γ1 = .ok true Γ2 ∧ ∃ Γ3, body acc Γ2 = some (nxt acc x, Γ3) ∧ anchor Γ0 Γ3 = Γ) ∧ I xs (nxt acc x)) :
    ∀ (xs : List ι) (acc : α), I xs acc → loopN body Γ0 gd t (xs.map e) acc Γ = some (xs.foldl nxt acc, Γ)
  | [], acc, _ => rfl
  | x :: xs, acc, hI => by
    obtain ⟨⟨Γ1, h1, Γ2, h2, Γ3, h3, h4⟩, h5⟩ := h x xs acc hI
    rw [List.map_cons, loopN, h1]
    dsimp only
    rw [h2]
    dsimp only
    rw [h3]
    dsimp only
    rw [h4, loopN_go e nxt I h xs _ h5, List.foldl_cons]
end
theorem dats_map0 (l : List D) : dats (l.map OV.dat) = some l := by
  have h := dats_map (l := l) (os := [])
  rw [List.append_nil] at h
  rw [h]
  show some (l ++ []) = _
  rw [List.append_nil]
end Nv
-- N38
namespace Nv
open PySem PySem.Spec PyProof.Rows L2
section
variable {P : Program} {w : World} {K : Type} [DecidableEq K] {knd : KeyKind P w K}
/-- the entries carry these keys -/
def KsOf (knd : KeyKind P w K) : List (Int × Value) → List K → Prop
  | [], [] => True
  | e :: es, k :: ks => (knd.is k e.2 = true ∧ e.1 = knd.hash k ∧ e.2.scannable = true) ∧ KsOf knd es ks
  | _, _ => False
theorem KsOf.len : ∀ {es : List (Int × Value)} {ks : List K}, KsOf knd es ks → es.length = ks.length
  | [], [], _ => rfl
  | e :: es, k :: ks, h => by rw [List.length_cons, List.length_cons, KsOf.len h.2]
  | [], _ :: _, h => h.elim
  | _ :: _, [], h => h.elim
theorem KsOf.app : ∀ {es : List (Int × Value)} {ks : List K} {e : Int × Value} {k : K}, KsOf knd es ks → (knd.is k e.2 = true ∧ e.1 = knd.hash k ∧ e.2.scannable = true) → KsOf knd (e :: es) (k :: ks) := fun h1 h2 => ⟨h2, h1⟩
theorem KsOf.perm {es es' : List (Int × Value)} (p : es.Perm es') : ∀ {ks : List K}, KsOf knd es ks → ∃ ks', KsOf knd es' ks' ∧ ks.Perm ks' := by
  induction p with
  | nil => intro ks h; exact ⟨ks, h, .refl _⟩
  | cons x _ ih =>
    intro ks h
    cases ks with
    | nil => exact h.elim
    | cons k ks =>
      obtain ⟨ks', h1, h2⟩ := ih h.2
      exact ⟨k :: ks', ⟨h.1, h1⟩, h2.cons k⟩
  | swap x y l =>
    intro ks h
    match ks, h with
    | a :: b :: ks, h => exact ⟨b :: a :: ks, ⟨h.2.1, h.1, h.2.2⟩, .swap _ _ _⟩
  | trans _ _ ih1 ih2 =>
    intro ks h
    obtain ⟨k1, h1, h2⟩ := ih1 h
    obtain ⟨k2, h3, h4⟩ := ih2 h1
    exact ⟨k2, h3, h2.trans h4⟩
theorem KsOf.elems : ∀ {es : List (Int × Value)} {ks : List K}, KsOf knd es ks → ElemsOf knd es
  | [], [], _ => fun e he => nomatch he
  | e :: es, k :: ks, h => fun x hx => by
    rcases List.mem_cons.mp hx with z | z
    · subst z; exact ⟨⟨k, h.1.1, h.1.2.1⟩, h.1.2.2⟩
    · exact KsOf.elems h.2 x z
  | [], _ :: _, h => h.elim
  | _ :: _, [], h => h.elim
theorem KsOf.mem {k : K} : ∀ {es : List (Int × Value)} {ks : List K}, KsOf knd es ks → (k ∈ ks ↔ ∃ e ∈ es, knd.is k e.2 = true)
  | [], [], _ => ⟨fun z => (nomatch z), fun ⟨e, z, _⟩ => (nomatch z)⟩
  | e :: es, j :: ks, h => by
    rw [List.mem_cons, KsOf.mem h.2]
    constructor
    · rintro (z | ⟨x, h1, h2⟩)
      · subst z; exact ⟨e, List.mem_cons_self, h.1.1⟩
      · exact ⟨x, List.mem_cons_of_mem _ h1, h2⟩
    · rintro ⟨x, h1, h2⟩
      rcases List.mem_cons.mp h1 with z | z
      · subst z; exact .inl (knd.inj _ _ _ h2 h.1.1)
      · exact .inr ⟨x, z, h2⟩
  | [], _ :: _, h => h.elim
  | _ :: _, [], h => h.elim
/-- the set at a: its keys, each once, in the order of its entries -/
def KSet (knd : KeyKind P w K) (h : Heap) (a : Addr) (ks : List K) : Prop :=
  ∃ o es ep t, h.get? a = some o ∧ o.ExactSet ∧ o.data = .set es ep t ∧ KsOf knd es.toList ks ∧ ks.Nodup ∧ es.size < scanBound ∧ t.fits es.size = true ∧ Ris t.place.toList ∧ (w.params.followText "set-order" = true ∨ t.led = true)
theorem KSet.at {h h' : Heap} {a : Addr} {ks : List K} (r : KSet knd h a ks) (keep : ∀ o, h.get? a = some o → h'.get? a = some o) : KSet knd h' a ks := by
  obtain ⟨o, es, ep, t, h1, h2⟩ := r
  exact ⟨o, es, ep, t, keep o h1, h2⟩
section
variable {A : Around} {E : Value → Shared → Prop} {s : Shared} {a : Addr}
theorem kset_tail {g : Bool → Sem Unit} (hg : ∀ (b : Bool) (s₁ : Shared) (Q' : Unit → Shared → Prop), Q' () s₁ → wpAny (model P w) A (g b) Q' E s₁)
    {o : Obj} {es : Array (Int × Value)} {ep : Nat} {t : SetTable} (at_ : s.heap.get? a = some o) (exact_ : o.ExactSet) (dat : o.data = .set es ep t)
    {es1 : Array (Int × Value)} {t2 : SetTable} {ks : List K} (g1 : KsOf knd es1.toList ks) (nd1 : ks.Nodup) (few : es1.size < scanBound) (fit : t2.fits es1.size = true) (ris : Ris t2.place.toList)
    (led : w.params.followText "set-order" = true ∨ t2.led = true) {dummy : Bool} {R : Option Bool → Shared → Prop}
    (go : ∀ h' ks', Heap.SameBut a s.heap h' → KSet knd h' a ks' → ks.Perm ks' → R (some true) { s with heap := h' }) :
    wpAny (model P w) A (do
        storeSet a es1 t2; if (!dummy && t2.tooFull) = true then do { g (relayAll t2 es1 (SetTable.grown es1.size)).2.2; storeSet a (relayAll t2 es1 (SetTable.grown es1.size)).1 (relayAll t2 es1 (SetTable.grown es1.size)).2.1; pure (some true) } else pure (some true)) R E s := by
  refine wpAny_bind (wpAny_storeSet_of at_ dat ?_ (fits_of_scanBound few))
  have at1 := store_at (es' := es1) (t' := t2) at_ dat
  have sb1 := Heap.SameBut.update s.heap a (Obj.putSet es1 t2)
  split
  · have pm := relayAll_perm t2 es1 (SetTable.grown es1.size)
    have fit3 := relayAll_fits t2 es1 (SetTable.grown es1.size)
    have ris3 := relayAll_ris t2 es1 (SetTable.grown es1.size)
    have led3 := relayAll_led t2 es1 (SetTable.grown es1.size)
    generalize relayAll t2 es1 (SetTable.grown es1.size) = Z at pm fit3 ris3 led3 ⊢
    obtain ⟨es2, t3, gave⟩ := Z
    dsimp only at pm fit3 ris3 led3 ⊢
    have size2 : es2.size = es1.size := by rw [← Array.length_toList, pm.length_eq, Array.length_toList]
    have few2 : es2.size < scanBound := by rw [size2]; exact few
    refine wpAny_bind (hg _ _ _ ?_)
    refine wpAny_bind (wpAny_storeSet_of at1 rfl ?_ (fits_of_scanBound few2))
    have at2 := store_at (es' := es2) (t' := t3) at1 rfl
    obtain ⟨ks', k1, k2⟩ := KsOf.perm pm.symm g1
    refine wpAny_pure (go _ ks' (sb1.trans (Heap.SameBut.update _ a _)) ?_ k2)
    exact ⟨_, es2, _, t3, at2, exact_, rfl, k1, k2.nodup_iff.mp nd1, few2, fit3, ris3, led.imp id fun z => by rw [led3]; exact z⟩
  · exact wpAny_pure (go _ ks sb1 ⟨_, es1, _, t2, at1, exact_, rfl, g1, nd1, few, fit, ris, led⟩ (.refl _))
theorem kset_add {k : K} {v : Value} {ks : List K} {Q : Bool → Shared → Prop} (hk : knd.is k v = true) (hs : v.scannable = true) (r : KSet knd s.heap a ks) (room : ks.length + 1 < scanBound)
    (go : ∀ h' ks', Heap.SameBut a s.heap h' → KSet knd h' a ks' → (if k ∈ ks then ks' = ks else (k :: ks).Perm ks') → ∀ b, Q b { s with heap := h' }) :
    wpAny (model P w) A (setAddHashed a v (knd.hash k)) Q E s := by
  obtain ⟨o, es, ep, t, at_, exact_, dat, g, nd, few, fit, ris, led⟩ := r
  have el : ElemsOf knd es.toList := g.elems
  unfold setAddHashed setAddHashedIn
  refine wpAny_holding (wpAny_bind (wpAny_setState_of at_ dat fit ?_))
  dsimp only
  rw [byScan_of hs few el]
  simp only [↓reduceIte]
  unfold setAddByScan
  refine wpAny_bind ?_
  refine wpAny_bind (wpAny_rule ?_)
  refine wpAny_bind (wpAny_setScan_of hk at_ dat fit el ?_)
  cases hfi : List.findIdx? (fun e => knd.is k e.2) es.toList with
  | some j =>
    dsimp only
    obtain ⟨hj, pj, _⟩ := List.findIdx?_eq_some_iff_getElem.mp hfi
    have hm : k ∈ ks := g.mem.mpr ⟨_, List.getElem_mem hj, pj⟩
    exact wpAny_pure (wpAny_pure (go s.heap ks (Heap.SameBut.refl a s.heap) ⟨o, es, ep, t, at_, exact_, dat, g, nd, few, fit, ris, led⟩ (by rw [if_pos hm]) _))
  | none =>
    dsimp only
    have hm : k ∉ ks := fun z => by
      obtain ⟨e, he, q⟩ := g.mem.mp z
      have c := List.findIdx?_eq_none_iff.mp hfi e he
      rw [q] at c
      cases c
    have gave_way : ∀ (b : Bool) {s₁ : Shared} {Q' : Unit → Shared → Prop}, Q' () s₁ → wpAny (model P w) A (match b with | true => rule "set.scan.the-table-gave-way" | false => pure ()) Q' E s₁ := fun b _ _ q => by
      cases b
      · exact wpAny_pure q
      · exact wpAny_rule q
    have pm := layNew_perm t es (knd.hash k) v
    have fit1 := layNew_fits t es (knd.hash k) v
    have ris1 := layNew_ris t es (knd.hash k) v ris
    have led1 := layNew_led t es (knd.hash k) v
    generalize layNew t es (knd.hash k) v = Z at pm fit1 ris1 led1 ⊢
    obtain ⟨es1, t1, dummy, gave⟩ := Z
    dsimp only at pm fit1 ris1 led1 ⊢
    rw [Array.toList_push] at pm
    have pc : es1.toList.Perm ((knd.hash k, v) :: es.toList) := pm.trans (List.perm_append_singleton _ _)
    obtain ⟨ks1, g1, pk⟩ := KsOf.perm pc.symm (show KsOf knd ((knd.hash k, v) :: es.toList) (k :: ks) from ⟨⟨hk, rfl, hs⟩, g⟩)
    have nd1 : ks1.Nodup := pk.nodup_iff.mp (List.nodup_cons.mpr ⟨hm, nd⟩)
    have few1 : es1.size < scanBound := by
      have q := pc.length_eq
      have q2 := g.len
      rw [Array.length_toList, List.length_cons] at q
      omega
    have led' : w.params.followText "set-order" = true ∨ t1.led = true := led.imp id fun z => by rw [led1]; exact z
    have fin : ∀ h' ks', Heap.SameBut a s.heap h' → KSet knd h' a ks' → ks1.Perm ks' → ∀ b, Q b { s with heap := h' } := fun h' ks' sb r p => go h' ks' sb r (by rw [if_neg hm]; exact pk.trans p)
    refine wpAny_bind (gave_way _ ?_)
    split
    · refine wpAny_bind ?_
      rw [hashByValue_scannable 8 hs]
      refine wpAny_pure ?_
      refine kset_tail ?_ at_ exact_ dat g1 nd1 few1 ?_ ?_ ?_ ?_
      · intro b s₁ Q' q; cases b <;> first | exact wpAny_pure q | exact wpAny_rule q
      · first | (split <;> first | exact fit1 | exact SetTable.fits_plain_off fit1) | exact fit1
      · first | (split <;> exact ris1) | exact ris1
      · first | (split <;> exact led') | exact led'
      · intro h' ks' sb r p; dsimp only; exact wpAny_pure (fin h' ks' sb r p _)
    · refine wpAny_bind (wpAny_pure ?_)
      simp only [↓reduceIte]
      refine kset_tail ?_ at_ exact_ dat g1 nd1 few1 fit1 ris1 led' ?_
      · intro b s₁ Q' q; cases b <;> first | exact wpAny_pure q | exact wpAny_rule q
      · intro h' ks' sb r p; dsimp only; exact wpAny_pure (fin h' ks' sb r p _)
theorem kset_new {h : Heap} (e : h.get? a = some { cls := .type "set", dict := none, data := .set #[] 0 (.fresh 0 0 (!w.params.followText "set-order")) }) : KSet knd h a [] :=
  ⟨_, #[], 0, _, e, ⟨rfl, rfl, rfl⟩, rfl, trivial, List.nodup_nil, (by decide), (by rfl), List.Pairwise.nil, by
    show _ ∨ (!w.params.followText "set-order") = true
    cases w.params.followText "set-order" <;> simp⟩
end
end
section
variable {K : Type} [DecidableEq K]
structure GotK (l : List K) (i : Nat) (ks : List K) : Prop where
  nd : ks.Nodup
  mem : ∀ k, k ∈ ks ↔ k ∈ l.take i
theorem GotK.zero (l : List K) : GotK l 0 [] := ⟨List.nodup_nil, fun k => by simp⟩
theorem GotK.len {l ks : List K} {i : Nat} (g : GotK l i ks) : ks.length ≤ i := by
  have h := List.Nodup.length_le_of_subset g.nd (l₂ := l.take i) fun k hk => (g.mem k).mp hk
  exact Nat.le_trans h (by rw [List.length_take]; omega)
theorem GotK.next {l ks ks' : List K} {i : Nat} {k : K} (g : GotK l i ks) (h : l[i]? = some k) (nd : ks'.Nodup) (p : if k ∈ ks then ks' = ks else (k :: ks).Perm ks') : GotK l (i + 1) ks' := by
  have e : l.take (i + 1) = l.take i ++ [k] := by rw [List.take_add_one, h]; rfl
  refine ⟨nd, fun j => ?_⟩
  rw [e, List.mem_append, List.mem_singleton, ← g.mem j]
  split at p
  · rename_i hk
    subst p
    exact ⟨.inl, fun z => z.elim id fun z => z ▸ hk⟩
  · rw [← p.mem_iff, List.mem_cons]
    exact Or.comm
end
section
variable {P : Program} {w : World} {K : Type} [DecidableEq K] {knd : KeyKind P w K} {A : Around} {E : Value → Shared → Prop} {s : Shared}
theorem kset_upd {I : Addr} {fp wr : List Addr} {G : Array GenState → Array GenState → Prop} {n : Nat} {Pv : Nat → Value → Prop} {St : Nat → Shared → Prop} {R : Result → Shared → Prop}
    (W : WalksS P w A.in1 I fp wr G n Pv St) (S : Addr) (off : S ∉ fp) (l : List K) (hn : n = l.length) (few : l.length + 1 < scanBound) (hv : ∀ i v, Pv i v → ∃ k, l[i]? = some k ∧ knd.is k v = true ∧ v.scannable = true) :
    ∀ (j i : Nat) (s : Shared), n - i = j → i ≤ n → St i s → (∃ ks, KSet knd s.heap S ks ∧ GotK l i ks) → (∀ s' ks, Moved (S :: wr) G s s' → KSet knd s'.heap S ks → GotK l n ks → R (.ok (.ret .none)) s') →
      codeAny (model P w) A (.builtin "set.update.loop" ⟨[.ref S, .ref I], []⟩) R s := by
  have offw : S ∉ wr := fun h => off (W.sub _ h)
  have sub : ∀ b ∈ wr, b ∈ S :: wr := fun b hb => List.mem_cons_of_mem _ hb
  intro j
  induction j with
  | zero =>
    rintro i s hj hi st ⟨ks, r, g⟩ hR
    obtain rfl : i = n := by omega
    refine codeAny_builtin F.entry_set_update_loop ?_; rw [Around.under_plainId F.plain_set_update_loop _]
    show wpAny _ A.in1 (pyNext (.ref I) >>= _) _ _ s; refine wpAny_bind (W.done s _ _ st fun s' hm => ?_)
    show wpAny _ A.in1 (ret Value.none) _ _ s'
    exact wpAny_pure (hR s' ks (hm.mono sub) (r.at fun o e => hm.heap S o offw e) g)
  | succ j ih =>
    rintro i s hj hi st ⟨ks, r, g⟩ hR
    have lt : i < n := by omega
    refine codeAny_builtin F.entry_set_update_loop ?_; rw [Around.under_plainId F.plain_set_update_loop _]
    show wpAny _ A.in1 (pyNext (.ref I) >>= _) _ _ s; refine wpAny_bind (W.item i s _ _ lt st fun v s' hP st' hm => ?_)
    obtain ⟨k, hk, his, hsc⟩ := hv i v hP
    have r' : KSet knd s'.heap S ks := r.at fun o e => hm.heap S o offw e
    show wpAny _ A.in1 (holding [v] (setAdd S v) >>= _) _ _ s'
    refine wpAny_bind (wpAny_holding ?_); unfold setAdd
    refine wpAny_holding ?_; refine wpAny_bind (knd.pyHash (k := k) his ?_)
    refine kset_add (s := { s' with toks := s'.toks + 1 }) his hsc r' (by have := g.len; omega) fun h' ks' sb r2 p b => ?_
    have nd' : ks'.Nodup := by obtain ⟨_, _, _, _, _, _, _, _, nd, _⟩ := r2; exact nd
    refine wpAny_pure ⟨plainId_quiet F.plain_set_update_loop _, ih (i + 1) _ (by omega) lt (W.frame _ s' _ _ st' (Nat.le_succ _) fun b hb o e => ?_) ⟨ks', r2, g.next hk nd' p⟩ fun s'' ks2 hm2 r3 g3 => ?_⟩
    · rw [sb.2 b (fun h : b = S => off (h ▸ hb))]; exact e
    · refine hR s'' ks2 (Moved.trans W.gtrans ((hm.mono sub).then_heap (Nat.le_succ _) fun b o hb e => ?_) hm2) r3 g3
      rw [sb.2 b (fun h : b = S => hb (h ▸ List.mem_cons_self))]; exact e
end
end Nv
-- N39
namespace Nv
open PySem PySem.Spec PyProof.Rows L2
section
variable {P : Program} {w : World} {K : Type} [DecidableEq K] {knd : KeyKind P w K} {A : Around} {E : Value → Shared → Prop} {s : Shared}
def emptyS (w : World) : Obj := { cls := .type "set", dict := none, data := .set #[] 0 (.fresh 0 0 (!w.params.followText "set-order")) }
/-- what set(xs) leaves -/
def MadeK (knd : KeyKind P w K) (l : List K) (s : Shared) (h' : Heap) : Prop := ∃ ks, KSet knd h' s.heap.objs.size ks ∧ GotK l l.length ks ∧ ∀ b o, s.heap.get? b = some o → h'.get? b = some o
set_option maxHeartbeats 8000000 in
theorem call_kset {a : Addr} {items : Array Value} (l : List K) {Q : Value → Shared → Prop} (hh : A.handled = none) (hl : s.heap.IsList a items) (size : items.size = l.length)
    (hv : ∀ (i : Nat) (v : Value), items[i]? = some v → ∃ k : K, l[i]? = some k ∧ knd.is k v = true ∧ v.scannable = true) (few : l.length + 1 < scanBound)
    (go : ∀ (h' : Heap) (tk : Nat), MadeK knd l s h' → Q (.ref s.heap.objs.size) { s with heap := h', toks := tk }) :
    wpAny (model P w) A (call (.type "set") [.ref a]) Q E s := by
  obtain ⟨c, tl, hmro⟩ := F.called_set.mro
  have hmade := F.called_set.made; have hsub := F.called_set.sub
  refine wpAny_call (codeAny_of_tree ?_); show wpAny _ _ (callAny (.type "set") _) _ _ _
  refine wpAny_pure ⟨Code.quiet_builtin _ (by decide +kernel), codeAny_builtin PySem.F.entry_type_call ?_⟩; rw [Around.under_plain (weight_type_call_type "set" [.ref a] []) rfl]
  have h1 := F.called_set.notType; have h2 := F.called_set.canCreate
  have hct := F.typeCall_set_1 (.ref a)
  repeat (any_goals (first | assumption | wp_step))
  refine codeAny_mono (code_set_led1 (.ref a) (E := E) (Q₁ := fun obj s₁ => obj = .ref s.heap.objs.size ∧ s₁ = { s with heap := s.heap.push (emptyS w) }) ⟨rfl, rfl⟩) fun r s₁ hr => ?_
  cases r with
  | error e => exact hr
  | ok fl =>
    cases fl with
    | ret obj =>
      obtain ⟨rfl, rfl⟩ := hr
      have hS : (s.heap.push (emptyS w)).get? s.heap.objs.size = some (emptyS w) := Heap.get?_push_size _ rfl
      have hT : Shared.TypeIs { s with heap := s.heap.push (emptyS w) } (.ref s.heap.objs.size) "set" := ⟨_, hS, rfl⟩
      have hli := F.called_set.init.lookup; have hbi := F.called_set.init.bind (.ref s.heap.objs.size)
      repeat (any_goals (first | assumption | wp_step))
      refine codeAny_mono (codeAny_call_builtin (R := wants (fun r s₂ => r = .none ∧ ∃ h' tk, s₂ = { s with heap := h', toks := tk } ∧ MadeK knd l s h') E) F.called_set.init.plain F.entry_set_init (check_set_init_1 hT ?_)) fun r₂ s₂ hr₂ => ?_
      · have hlS : a < s.heap.objs.size := by obtain ⟨o, h, _⟩ := hl; exact Heap.lt_size h
        have hh3 : A.in1.in1.in1.handled = none := by simp [hh]
        have ne1 : a ≠ (s.heap.push (emptyS w)).objs.size := by rw [Heap.size_push]; exact Nat.ne_of_lt (Nat.lt_succ_of_lt hlS)
        have off : s.heap.objs.size ∉ [(s.heap.push (emptyS w)).objs.size, a] := by
          rw [Heap.size_push, List.mem_cons, List.mem_singleton]
          rintro (z | z)
          · exact Nat.ne_of_lt (Nat.lt_succ_self _) z
          · exact Nat.ne_of_gt hlS z
        have first_ : ∀ (I : Obj), KSet knd ((s.heap.push (emptyS w)).push I) s.heap.objs.size [] := fun I => kset_new (Heap.get?_push_of_some _ hS)
        have hneD : (Value.type "list" == Value.type "dict") = false := by decide
        obtain ⟨⟨ocls, odict, odata, oslots⟩, hol, hcl, nl, hdl⟩ := hl
        simp only at hcl hdl; subst hcl; subst hdl
        have hol' : (s.heap.push (emptyS w)).get? a = some { cls := .type "list", dict := odict, data := .seq items nl, slots := oslots } := Heap.get?_push_of_some _ hol
        have s1 := F.sub_list_set; have s2 := F.sub_list_frozenset
        have hl1 : (s.heap.push (emptyS w)).IsList a items := ⟨_, hol', rfl, nl, rfl⟩
        have hl0 : s.heap.IsList a items := ⟨_, hol, rfl, nl, rfl⟩
        unfold Builtin.«set.__init__» noKeywords Builtin.Frozenset.updateFrom; generalize hPI : pyIter = PI
        wp_walk
        subst hPI
        refine wpAny_pyIter_list hl1 ?_; refine wpAny_bind (wpAny_runValue ?_)
        refine kset_upd ((Walks.list hh3 _ a ne1 items).toS) s.heap.objs.size off l size few hv (items.size - 0) 0 _ (by omega) (Nat.zero_le _) ⟨⟨_, Heap.get?_push_size _ rfl, rfl, rfl⟩, (hl1.push _)⟩ ⟨[], first_ _, GotK.zero l⟩ ?_
        intro s' ks hm r g
        obtain ⟨h', g2, d', tk', os'⟩ := s'
        obtain rfl : g2 = s.gens := hm.gens
        obtain rfl : d' = s.drawn := hm.drawn
        obtain rfl : os' = s.os := hm.os
        show wpAny _ _ _ _ _ _; refine wpAny_pure ?_; show wpAny _ _ (ret Value.none) _ _ _
        refine wpAny_pure ⟨rfl, h', tk', rfl, ks, r, size ▸ g, fun b o e => ?_⟩
        have hb := Heap.lt_size e
        refine hm.heap b o (fun z => ?_) (Heap.get?_push_of_some _ (Heap.get?_push_of_some _ e))
        rw [Heap.size_push, List.mem_cons, List.mem_singleton] at z
        rcases z with z | z
        · exact Nat.ne_of_lt hb z
        · exact Nat.ne_of_lt (Nat.lt_succ_of_lt hb) z
      · cases r₂ with
        | error e => exact hr₂
        | ok fl₂ =>
          cases fl₂ with
          | ret r =>
            obtain ⟨rfl, h', tk, rfl, made⟩ := hr₂
            repeat (any_goals (first | assumption | wp_step))
            exact go _ _ made
          | _ => exact hr₂.elim
    | _ => exact hr.elim
end
end Nv
-- N40
namespace Nv
open PySem PySem.Spec PyProof.Rows L2
open Evl (Ex)
def ded (acc : List (List Nat)) : List (List Nat) → List (List Nat)
  | [] => acc
  | x :: r => if x ∈ acc then ded acc r else ded (acc ++ [x]) r
def asc (l : List (List Nat)) : List (List Nat) := sortT (ded [] l)
theorem ded_mem : ∀ (l acc : List (List Nat)) (x : List Nat), x ∈ ded acc l ↔ x ∈ acc ∨ x ∈ l
  | [], acc, x => by simp [ded]
  | y :: r, acc, x => by
    rw [ded, List.mem_cons]
    split
    · rename_i h
      rw [ded_mem r acc x]
      exact ⟨fun z => z.imp id .inr, fun z => z.elim .inl fun z => z.elim (fun z => .inl (z ▸ h)) .inr⟩
    · rw [ded_mem r _ x, List.mem_append, List.mem_singleton, or_assoc]
theorem ded_nd : ∀ (l acc : List (List Nat)), acc.Nodup → (ded acc l).Nodup
  | [], acc, h => h
  | y :: r, acc, h => by
    rw [ded]
    split
    · exact ded_nd r acc h
    · rename_i hy
      exact ded_nd r _ (List.nodup_append.mpr ⟨h, by simp, fun a ha b hb => by
        rw [List.mem_singleton.mp hb]
        exact fun z => hy (z ▸ ha)⟩)
theorem asc_mem {l : List (List Nat)} {x : List Nat} : x ∈ asc l ↔ x ∈ l := by
  unfold asc
  rw [(sortT_perm _).mem_iff, ded_mem]
  simp
theorem asc_nd (l : List (List Nat)) : (asc l).Nodup := (sortT_perm _).nodup_iff.mpr (ded_nd l [] List.nodup_nil)
/-- all that holds the same texts, each once, ascending, is the same -/
theorem asc_only {l m : List (List Nat)} (nd : m.Nodup) (e : ∀ x, x ∈ m ↔ x ∈ l) : sortT m = asc l := by
  have p : m.Perm (ded [] l) := (List.perm_ext_iff_of_nodup nd (ded_nd l [] List.nodup_nil)).mpr fun x => by rw [e x, ded_mem]; simp
  exact perm_sorted_eq ((sortT_perm m).trans (p.trans (sortT_perm _).symm)) (sortT_sorted _) (sortT_sorted _)
theorem asc_ext {l m : List (List Nat)} (e : ∀ x, x ∈ m ↔ x ∈ l) : asc m = asc l := asc_only (ded_nd m [] List.nodup_nil) fun x => by rw [ded_mem]; simpa using e x
section
variable {X : Cx}
theorem strs_ks {P : Program} {w : World} : ∀ {es : List (Int × Value)} {ks : List Str}, KsOf (PySem.strKind P w) es ks → StrsAre (es.map (·.2)) ks
  | [], [], _ => .nil
  | e :: es, k :: ks, h => by
    obtain ⟨t, ht⟩ := Value.isStrOf_shape h.1.1
    rw [List.map_cons, ht]
    exact .cons k t (strs_ks h.2)
  | [], _ :: _, h => h.elim
  | _ :: _, [], h => h.elim
theorem strs_pm {vs us : List Value} (p : vs.Perm us) : ∀ {ks : List Str}, StrsAre us ks → ∃ ks', StrsAre vs ks' ∧ ks'.Perm ks := by
  induction p with
  | nil => intro ks h; exact ⟨ks, h, .refl _⟩
  | cons x _ ih =>
    intro ks h
    cases h with
    | cons n t hr =>
      obtain ⟨k', h1, h2⟩ := ih hr
      exact ⟨_, .cons n t h1, h2.cons n⟩
  | swap x y l =>
    intro ks h
    cases h with
    | cons n t hr =>
      cases hr with
      | cons m u hr => exact ⟨_, .cons m u (.cons n t hr), .swap _ _ _⟩
  | trans _ _ ih1 ih2 =>
    intro ks h
    obtain ⟨k1, h1, h2⟩ := ih2 h
    obtain ⟨k2, h3, h4⟩ := ih1 h1
    exact ⟨k2, h3, h4.trans h2⟩
theorem sorted_kset {pins : List (Addr × Obj)} {σ : L2.St} {H : Hp} {s : Shared} {a : Addr} {ks : List Str} {Q : VK} (I : Inv X pins σ H s) (hh : X.A.handled = none) (r : KSet (PySem.strKind X.prog X.w) s.heap a ks) (h64 : ks.length < 64)
    (q : ∀ (ys : List Str) (p : Addr), ys.Perm ks → sortedS ys = true → H p = none → Q (.ref p) (upd H p (.lst (ys.map V.str)))) :
    wpAny (model X.prog X.w) X.A (call (.builtin "sorted") [.ref a]) (EP X pins σ Q) X.xe s := by
  obtain ⟨o, es, ep, t, at_, exact_, dat, g, nd, few, fit, ris, led⟩ := r
  refine Calls.call_function_entry PyProof.Rows.kind_sorted PyProof.Rows.plain_sorted PyProof.Rows.entry_sorted (PyProof.Rows.args_sorted1 _) ?_
  unfold Builtin.«sorted»; refine wpAny_bind (m := checkCount "sorted" 1 1 _) (wpAny_pure ?_)
  refine wpAny_bind (collect_set (A := X.A.in1) hh ⟨o, at_, exact_.1, dat⟩ fit few ris led fun s1 vs k1 hz g1 o1 pm => ?_)
  obtain ⟨kv, hS, pk⟩ := strs_pm pm (strs_ks g)
  have hal : vs.length = kv.length := hS.len_eq
  have h64 : kv.length < 64 := by rw [pk.length_eq]; exact h64
  refine wpAny_bind (wpAny_newList ?_ (by rw [hal, sizeLine_eq]; omega))
  have hoL : (s1.heap.push (seqObj "list" vs.toArray 0)).get? s1.heap.objs.size = some (seqObj "list" vs.toArray 0) := Heap.get?_push_size _ rfl
  refine wpAny_bind (wpAny_holding (wpAny_call_entry PyProof.Rows.slot_list_sort ⟨_, hoL, rfl⟩ PyProof.Rows.entry_list_sort
    (list_sort_treeK strKind_oneLt (s := { s1 with heap := s1.heap.push (seqObj "list" vs.toArray 0) }) hoL hS.keysOf (fun v₁ v₂ rest e => keyKind_strs (by rw [← e]; exact hS)) (by rw [hal]; exact h64) fun st' hp hs => ⟨_, rfl, ?_⟩)
    (PyProof.Rows.args_list_sort _)))
  obtain ⟨ys, q1, q2, q3⟩ := sorted_out_str hS hp hs
  obtain ⟨e', he'⟩ := PyProof.Rows.sortedHeap_at (vs := vs) (out := (arrOf st').map (·.2)) hoL
  have hlen : (ys.map V.str).length ≤ sizeLine := by
    rw [List.length_map, q2.length_eq]
    exact Nat.le_trans (Nat.le_of_lt h64) (by decide)
  have hn : H s1.heap.objs.size = none := I.hok.fresh hz
  have keep : ∀ b o, s.heap.get? b = some o → (sortedHeap (s1.heap.push (seqObj "list" vs.toArray 0)) s1.heap.objs.size vs ((arrOf st').map (·.2))).get? b = some o := fun b u e => by
    have q := k1 b u e
    have hb := Heap.lt_size q
    rw [PyProof.Rows.sortedHeap_old (Nat.ne_of_lt hb) (by rw [size_push']; exact Nat.lt_succ_of_lt hb)]
    exact Heap.get?_push_of_some _ q
  refine wpAny_pure ⟨_, rfl, .ref s1.heap.objs.size, upd H s1.heap.objs.size (.lst (ys.map V.str)), ?_, rfl, q ys _ (q2.trans pk) q3 hn⟩
  refine I.call' (s' := { s1 with heap := sortedHeap (s1.heap.push (seqObj "list" vs.toArray 0)) s1.heap.objs.size vs ((arrOf st').map (·.2)) }) (ch := []) o1 (Un.laid keep hz hn)
    (I.hok.laid keep hz (show ObjOk X.prog X.w _ _ _ (.lst (ys.map V.str)) from ⟨hlen, ((arrOf st').map (·.2)).toList, e', vals_of_strs q1, by rw [Array.toArray_toList]; exact he'⟩)) (by
      show AllBare s1.gens
      rw [g1]; exact I.bare) (fun _ z => nomatch z)
/-- what is known of set(xs) -/
def rSS (K : PySem.W.Frag) : V → Hp → VK → Prop := fun x H Q => ∃ (a : Addr) (l : List (List Nat)), x = .ref a ∧ SqL K H a (l.map fun t => V.str (SX.S t)) ∧ l.length < 4000 ∧ (asc l).length < 64 ∧
  ∀ p : Addr, H p = none → Q (.ref p) (upd H p (.lst ((asc l).map fun t => V.str (SX.S t))))
theorem got_ded {l : List (List Nat)} {ks : List Str} (g : GotK (l.map SX.S) l.length ks) : ∃ m : List (List Nat), ks = m.map SX.S ∧ m.Nodup ∧ ∀ x, x ∈ m ↔ x ∈ l := by
  refine ⟨ks.map TL.tl, ?_, ?_, fun x => ?_⟩
  · rw [List.map_map]
    conv => lhs; rw [← List.map_id ks]
    exact List.map_congr_left fun x _ => (SX.S_tl x).symm
  · refine List.Pairwise.map TL.tl (fun a b hab e => hab ?_) g.nd
    have h := congrArg SX.S e
    rw [SX.S_tl, SX.S_tl] at h
    exact h
  · rw [List.mem_map]
    have ht : (l.map SX.S).take l.length = l.map SX.S := List.take_of_length_le (by rw [List.length_map]; omega)
    constructor
    · rintro ⟨k, hk, rfl⟩
      have h := (g.mem k).mp hk
      rw [ht, List.mem_map] at h
      obtain ⟨y, hy, rfl⟩ := h
      exact hy
    · intro hx
      exact ⟨SX.S x, (g.mem _).mpr (by rw [ht]; exact List.mem_map_of_mem hx), rfl⟩
theorem strs_get {us : List Value} {l : List (List Nat)} (h : Vals (l.map fun t => V.str (SX.S t)) us) {P : Program} {w : World} : us.length = (l.map SX.S).length ∧
    ∀ (i : Nat) (v : Value), us.toArray[i]? = some v → ∃ k : Str, (l.map SX.S)[i]? = some k ∧ (PySem.strKind P w).is k v = true ∧ v.scannable = true := by
  have hl : us.length = (l.map SX.S).length := by rw [← h.length, List.length_map, List.length_map]
  refine ⟨hl, fun i v e => ?_⟩
  have e' : us[i]? = some v := by simpa using e
  have hi : i < l.length := by
    have := (List.getElem?_eq_some_iff.mp e').1
    rw [hl, List.length_map] at this
    exact this
  obtain ⟨u, hu, t, ht⟩ := h.get (i := i) (x := .str (SX.S l[i])) (by simp [hi])
  rw [e'] at hu
  cases hu
  subst ht
  exact ⟨SX.S l[i], by simp [hi], PySem.strKind_is _ _ _ _, rfl⟩
theorem boot_sorted : bootBuiltins "sorted" = some (.builtin "sorted") := by decide +kernel
theorem boot_setT : bootBuiltins "set" = some (.type "set") := by decide +kernel
theorem pe_sset {a : Expr} {ta : TE} {p p2 q pos : Pos} (hc : X.calm = true) (hm : X.mg "sorted" = none) (hm2 : X.mg "set" = none) (ha : PE X a ta) (hg : Gl X "sorted" := by rfl) (hg2 : Gl X "set" := by rfl)
    (na : starEach [a] X.env = (false, eval a X.env) :: starEach [] X.env := by rfl) : PE X (.Call (.Name "sorted" p) [.Call (.Name "set" p2) [a] [] q] [] pos) (tUn (rSS X.K) ta) := by
  refine ⟨fun pins s σ H Q I h => ?_⟩
  refine Call_ (ld_blt I hg hm boot_sorted ?_); refine PyProof.Rows.callWith_builtin1 (PyProof.Rows.args_cons ?_ rfl) rfl rfl
  refine Call_ (ld_blt I hg2 hm2 boot_setT ?_)
  refine PyProof.Rows.callWith_type1 (PyProof.Rows.args_cons (thn (ha.run pins s σ H _ I h) fun v s1 ⟨x, H1, I1, r1, q1⟩ => PyProof.Rows.args_nil ?_) na) na rfl
  obtain ⟨l, xs, rfl, hq, hn, h64, q1⟩ := q1
  cases r1
  obtain ⟨its, r, pl, hz⟩ := I1.list hq
  obtain ⟨g1, g2⟩ := strs_get r (P := X.prog) (w := X.w)
  have hh : X.A.handled = none := I1.ok.hd hc
  refine call_kset (knd := PySem.strKind X.prog X.w) (xs.map SX.S) hh pl.isList (by rw [List.size_toArray]; exact g1) g2 (by rw [List.length_map]; show _ < 4096; omega) fun h' tk ⟨ks, r2, got, keep⟩ => PyProof.Rows.args_nil ?_
  rw [List.length_map] at got
  obtain ⟨m, rfl, nd, mem⟩ := got_ded got
  have e1 := asc_only nd mem
  refine sorted_kset (I1.kept keep) hh r2 (by rw [List.length_map, ← (sortT_perm m).length_eq, e1]; exact h64) fun ys p hp hs hn => ?_
  rw [sortS_eq hp hs, sortS_S, e1, List.map_map]
  exact q1 p hn
end
section
variable {X : Cx} {c : Cf}
/-- sorted(set(xs)) of data -/
def gSset (d : D) : Option AV := match d with
  | .lst l => (match strsO l with
    | some ks => if ks.length < 4000 ∧ (asc (ks.map TL.tl)).length < 64 then some (.own (.lst ((asc (ks.map TL.tl)).map fun t => .str (SX.S t)))) else none
    | none => none)
  | _ => none
theorem do_sset {a : Expr} {p p2 q pos : Pos} {f : Ev → Rs OV} (hM : c.M = ⟨X.K, X.mg⟩) (hc : X.calm = true) (hm : X.mg "sorted" = none) (hm2 : X.mg "set" = none) (ha : DB X c a f) (hg : Gl X "sorted" := by rfl) (hg2 : Gl X "set" := by rfl)
    (na : starEach [a] X.env = (false, eval a X.env) :: starEach [] X.env := by rfl) : DO X c (.Call (.Name "sorted" p) [.Call (.Name "set" p2) [a] [] q] [] pos) (op1 gSset f) := by
  refine PE.of (pe_sset hc hm hm2 ha hg hg2 na) fun σ H Q qq => ?_
  refine rd_op1 (r := rSS X.K) ?_ qq
  intro F H x d av Q sub r1 e h
  unfold gSset at e
  split at e
  · rename_i l
    split at e
    · rename_i ks hk
      split at e
      · rename_i hh
        cases e
        obtain ⟨b, xs, rfl, h1, h2⟩ := r1_lst r1
        rw [strsO_eq hk] at h2
        obtain ⟨h3, h4⟩ := h2.strs
        subst h3
        have e0 : ks.map V.str = (ks.map TL.tl).map fun t => V.str (SX.S t) := by
          rw [List.map_map]
          exact List.map_congr_left fun x _ => by show V.str x = V.str (SX.S (TL.tl x)); rw [SX.S_tl]
        refine ⟨b, ks.map TL.tl, rfl, by rw [← e0]; exact SqL.of h1, by rw [List.length_map]; exact hh.1, hh.2, fun p hn => ?_⟩
        refine fin_lst sub h hn ?_
        have e2 : ∀ (l : List (List Nat)), (∀ t ∈ l, PyData.strOk (SX.S t) = true) → Reps c.M F (l.map fun t => D.str (SX.S t)) (l.map fun t => V.str (SX.S t)) := by
          intro l
          induction l with
          | nil => intro _; exact Reps.nil
          | cons t l ih => intro hl; exact Reps.cons (rep_str.mpr ⟨rfl, hl t List.mem_cons_self⟩) (ih fun u hu => hl u (List.mem_cons_of_mem _ hu))
        refine e2 _ fun t ht => ?_
        rw [asc_mem, List.mem_map] at ht
        obtain ⟨k, hk, rfl⟩ := ht
        rw [List.all_eq_true] at h4
        rw [SX.S_tl]; exact h4 k hk
      · cases e
    · cases e
  · cases e
end
theorem gSset_S {l : List Tx} (h1 : l.length < 4000) (h2 : (asc l).length < 64) : gSset (.lst (l.map tD)) = some (.own (.lst ((asc l).map tD))) := by
  unfold gSset
  dsimp only
  rw [strsO_map]
  have e : (l.map SX.S).map TL.tl = l := by
    rw [List.map_map]
    conv => rhs; rw [← List.map_id l]
    exact List.map_congr_left fun x _ => rfl
  dsimp only
  rw [e, List.length_map, if_pos ⟨h1, h2⟩]
end Nv
-- N41
namespace Nv
open PySem PySem.Spec PyProof.Rows L2
open Evl (Ex)
open PySem.W (AllAlike Sortable EachIs dataLe alike sort_maps)
/-- a value and what it reads as -/
abbrev VP := V × PyData
def rSortV (K : PySem.W.Frag) : List V → Hp → VK → Prop := fun vs H Q => ∃ (a : Addr) (bs : List VP), vs = [.ref a] ∧ SqL K H a (bs.map (·.1)) ∧ (∀ b ∈ bs, Dp K H b.1 b.2 ∧ b.2.depth ≤ 60) ∧ AllAlike (bs.map (·.2)) ∧ Sortable (bs.map (·.2)) ∧ bs.length ≤ 1000000 ∧
  ∀ p : Addr, H p = none → Q (.ref p) (upd H p (.lst ((bs.mergeSort (dataLe false fun p : VP => p.2)).map (·.1))))
theorem each_of {X : Cx} {pins : List (Addr × Obj)} {σ : L2.St} {H : Hp} {s : Shared} (I : L2.Inv X pins σ H s) : ∀ {bs : List VP} {us : List Value}, Vals (bs.map (·.1)) us → (∀ b ∈ bs, Dp X.K H b.1 b.2) →
    EachIs (fun v (b : VP) => RelV b.1 v) us bs ∧ EachIs (fun v (b : VP) => ∃ as, Reads s.heap v b.2 as) us bs
  | [], _, r, _ => by cases r; exact ⟨.nil, .nil⟩
  | b :: bs, _, r, h => by
    rw [List.map_cons] at r
    cases r with
    | cons h1 h2 =>
      obtain ⟨e1, e2⟩ := each_of I h2 fun x hx => h x (List.mem_cons_of_mem _ hx)
      exact ⟨.cons h1 e1, .cons (Dp.reads I _ _ _ (h b List.mem_cons_self) h1) e2⟩
theorem each_vals : ∀ {us : List Value} {bs : List VP}, EachIs (fun v (b : VP) => RelV b.1 v) us bs → Vals (bs.map (·.1)) us
  | _, _, .nil => .nil
  | _, _, .cons h t => .cons h (each_vals t)
theorem cr_sortV {X : Cx} (hu : X.A.units + 63 < cLine) : CallR X (.builtin "sorted") (rSortV X.K) := by
  intro pins s σ H vs us Q I r h
  obtain ⟨a, bs, rfl, hs, hd, al, so, few, q⟩ := h
  obtain ⟨u, rfl, rx⟩ := vals1 r
  cases rx
  obtain ⟨its, rv, pl, hz⟩ := I.list hs
  obtain ⟨e1, e2⟩ := each_of I rv fun b hb => (hd b hb).1
  refine PySem.W.sorted_data (enc := fun b : VP => b.2) pl.isList e1 e2 al so (by rw [sizeLine_eq]; omega) (fun b hb => by have := (hd b hb).2; omega) fun out ho eo => ?_
  obtain ⟨c, at_⟩ := sortedAll_at s.heap its (List.toArray out)
  have keep : ∀ b o, s.heap.get? b = some o → (sortedAll s.heap its (List.toArray out)).get? b = some o := fun b o e => sortedAll_old e
  have hp : s.heap.objs.size ≤ s.heap.objs.size + 1 := Nat.le_succ _
  have hn : H (s.heap.objs.size + 1) = none := I.hok.fresh hp
  have vals := each_vals eo
  have hlen : ((bs.mergeSort (dataLe false fun p : VP => p.2)).map (·.1)).length ≤ sizeLine := by
    rw [List.length_map, List.length_mergeSort, sizeLine_eq]; omega
  refine ⟨.ref (s.heap.objs.size + 1), _, ?_, rfl, q _ hn⟩
  exact I.call' (s' := { s with heap := sortedAll s.heap its (List.toArray out) }) (ch := []) rfl (Un.laid keep hp hn)
    (I.hok.laid keep hp (show ObjOk X.prog X.w _ _ _ (.lst _) from ⟨hlen, out, c, vals, at_⟩)) I.bare (fun _ z => nomatch z)
/-- all alike, to be compared -/
def srtOk (l : List D) : Bool := l.all (fun d => (d.eqd.map fun n => decide (n ≤ 60)).getD false) && l.all (fun d => l.all fun e => alike d.py e.py) && (l.all (fun d => match d with | .tup (_ :: _) => true | _ => false) || l.all (fun d => match d with | .bl _ => true | .int _ => true | .str _ => true | .lst _ => true | _ => false)) && decide (l.length ≤ 1000000)
def dLe (a b : D) : Bool := dataLe false D.py a b
def gSortD (d : D) : Option AV := match d with
  | .lst l => if srtOk l = true then some (.own (.lst (l.mergeSort dLe))) else none
  | _ => none
theorem reps_zip {M : Md} {F : Hp} : ∀ {l : List D} {xs : List V}, Reps M F l xs → ∃ z : List (D × V), l = z.map (·.1) ∧ xs = z.map (·.2) ∧ ∀ p ∈ z, Rep M F p.1 p.2
  | [], _, h => by cases reps_nil.mp h; exact ⟨[], rfl, rfl, fun _ h => nomatch h⟩
  | d :: l, _, h => by
    obtain ⟨v, r, rfl, h1, h2⟩ := reps_cons.mp h
    obtain ⟨z, e1, e2, h3⟩ := reps_zip h2
    refine ⟨(d, v) :: z, by rw [e1]; rfl, by rw [e2]; rfl, fun p hp => ?_⟩
    rcases List.mem_cons.mp hp with e | hp
    · subst e; exact h1
    · exact h3 p hp
theorem zip_reps {M : Md} {F : Hp} : ∀ {z : List (D × V)}, (∀ p ∈ z, Rep M F p.1 p.2) → Reps M F (z.map (·.1)) (z.map (·.2))
  | [], _ => Reps.nil
  | p :: z, h => Reps.cons (h p List.mem_cons_self) (zip_reps fun q hq => h q (List.mem_cons_of_mem _ hq))
theorem os_sortD {M : Md} : OpS M (rSortV M.K) (gA1 gSortD) := opS1 fun F H x d av Q sub r1 e h => by
  unfold gSortD at e
  split at e
  · rename_i l
    split at e
    · rename_i hok
      cases e
      unfold srtOk at hok
      rw [Bool.and_eq_true, Bool.and_eq_true, Bool.and_eq_true, decide_eq_true_eq] at hok
      obtain ⟨⟨⟨ok1, ok2⟩, ok3⟩, ok4⟩ := hok
      obtain ⟨a, xs, rfl, h1, h2⟩ := r1_lst r1
      obtain ⟨z, rfl, rfl, hz⟩ := reps_zip h2
      have ok1' : ∀ p ∈ z, ∃ n, p.1.eqd = some n ∧ n ≤ 60 := fun p hp => by
        have q := (List.all_eq_true.mp ok1) p.1 (List.mem_map_of_mem hp)
        cases hq : p.1.eqd with
        | none => rw [hq] at q; cases q
        | some n => rw [hq] at q; exact ⟨n, rfl, of_decide_eq_true q⟩
      have e0 : ∀ z : List (D × V), (z.map fun p => ((p.2, p.1.py) : VP)).map (·.1) = z.map (·.2) := fun z => by rw [List.map_map]; rfl
      have e1 : (z.map fun p => ((p.2, p.1.py) : VP)).map (·.2) = (z.map (·.1)).map D.py := by rw [List.map_map, List.map_map]; rfl
      refine ⟨a, z.map fun p => (p.2, p.1.py), rfl, by rw [e0]; exact SqL.of h1, fun b hb => ?_, ?_, ?_, by rw [List.length_map] at ok4 ⊢; exact ok4, fun p hn => ?_⟩
      · obtain ⟨p, hp, rfl⟩ := List.mem_map.mp hb
        obtain ⟨n, q1, q2⟩ := ok1' p hp
        obtain ⟨x1, x2, x3⟩ := py_dp (Rep.mono sub (hz p hp)) q1
        exact ⟨x1, by show p.1.py.depth ≤ 60; omega⟩
      · rw [e1]
        intro d hd d' hd'
        obtain ⟨x, hx, rfl⟩ := List.mem_map.mp hd
        obtain ⟨y, hy, rfl⟩ := List.mem_map.mp hd'
        exact (List.all_eq_true.mp ((List.all_eq_true.mp ok2) x hx)) y hy
      · rw [e1]
        rcases Bool.or_eq_true_iff.mp ok3 with q | q
        · refine .inl fun d hd => ?_
          obtain ⟨x, hx, rfl⟩ := List.mem_map.mp hd
          have := (List.all_eq_true.mp q) x hx
          split at this
          · exact ⟨_, _, rfl⟩
          · cases this
        · refine .inr fun d hd => ?_
          obtain ⟨x, hx, rfl⟩ := List.mem_map.mp hd
          have := (List.all_eq_true.mp q) x hx
          cases x <;> first | exact (Bool.false_ne_true this).elim | (unfold D.py; exact ⟨by simp, by simp⟩)
      · have s1 : ((z.map fun p => ((p.2, p.1.py) : VP)).mergeSort (dataLe false fun p : VP => p.2)) = (z.mergeSort fun a b => dLe a.1 b.1).map fun p => ((p.2, p.1.py) : VP) := (sort_maps (fun p : D × V => ((p.2, p.1.py) : VP)) fun a _ b _ => rfl).symm
        have s2 : (z.map (·.1)).mergeSort dLe = (z.mergeSort fun a b => dLe a.1 b.1).map (·.1) := (sort_maps (fun p : D × V => p.1) fun a _ b _ => rfl).symm
        rw [s1, e0]
        rw [s2] at h
        exact fin_lst sub h hn (zip_reps fun p hp => hz p ((List.mergeSort_perm z _).mem_iff.mp hp))
    · cases e
  · cases e
section
variable {X : Cx} {c : Cf} {e : Expr} {es : List Expr} {f : Ev → Rs (List OV)} {p pos : Pos}
/-- sorted of texts, of a list of plain data -/
def gSort2 (d : D) : Option AV := match gSort d with
  | some av => some av
  | none => gSortD d
def rSort2 (K : PySem.W.Frag) : List V → Hp → VK → Prop := fun vs H Q => rSortA K vs H Q ∨ rSortV K vs H Q
theorem os_sort2 {M : Md} : OpS M (rSort2 M.K) (gA1 gSort2) := by
  intro F H vs ds av Q sub r e h
  cases ds with
  | nil => cases e
  | cons d ds =>
    cases ds with
    | cons _ _ => cases e
    | nil =>
      have e' : gSort2 d = some av := e
      unfold gSort2 at e'
      split at e'
      · rename_i av' q
        cases e'
        exact .inl (os_sort F H vs [d] av Q sub r q h)
      · exact .inr (os_sortD F H vs [d] av Q sub r e' h)
theorem do_sorted2 (hM : c.M = ⟨X.K, X.mg⟩) (hu : X.A.units + 65 < cLine) (hc : X.calm = true) (hm : X.mg "sorted" = none) (ha : DA X c (e :: es) f) (hg : Gl X "sorted" := by rfl) (he : starEach (e :: es) X.env = (false, eval e X.env) :: starEach es X.env := by rfl) (hpl : (backTo pos (starEach es X.env)).any (·.1) = false := by rfl) : DO X c (.Call (.Name "sorted" p) (e :: es) [] pos) (opA (gA1 gSort2) f) :=
  do_callB (r := rSort2 X.K) ((cr_sortA hc).or (cr_sortV (by omega))) (by rw [hM]; exact os_sort2) hm ha (hg := hg) (he := he) (hpl := hpl)
end
end Nv
-- N42
namespace Nv
open PySem PySem.Spec PyProof.Rows L2
section
variable {ι S α : Type} {g : TgF} {f : Ev → Out} {t : Ev → Rs Bool} {fe fk fv : Ev → Rs D} {Γ0 Γ Γ1 Γ2 Γ3 : Ev} {d y : D} {b : Bool} {body : α → Ev → Option (α × Ev)} {cs : List DCl} {c : DCl}
def kF1 (f : Ev → Out) : Option Ev → Out
  | some Γ => f Γ
  | none => .bad
def turnF (g : TgF) (f : Ev → Out) (d : D) (Γ : Ev) : Out := kF1 f (g d Γ)
theorem turnF_ap : turnF g f d Γ = kF1 f (g d Γ) := rfl
theorem kF1_ap : kF1 f (some Γ) = f Γ := rfl
theorem turnF_some {o : Out} (h : turnF g f d Γ = o) (nb : o ≠ .bad) : ∃ Γ1, g d Γ = some Γ1 ∧ f Γ1 = o := by
  unfold turnF at h
  cases e : g d Γ with
  | none => rw [e] at h; exact absurd h.symm nb
  | some Γ1 => rw [e] at h; exact ⟨Γ1, rfl, h⟩
def Goes (o : Out) (Γ : Ev) : Prop := o = .nx Γ ∨ o = .ct Γ
/-- a for by what holds ahead of each turn -/
theorem forL_x (e : ι → D) (R : List ι → Ev → Prop) (h : ∀ x xs Γ, R (x :: xs) Γ → ∃ Γ', Goes (turnF g f (e x) Γ) Γ' ∧ R xs Γ') :
    ∀ (xs : List ι) (Γ : Ev), R xs Γ → ∃ Γ', forL g f (xs.map e) Γ = .nx Γ' ∧ R [] Γ' := forL_inv e R fun x xs Γ r => by
  obtain ⟨Γ', h1, h2⟩ := h x xs Γ r
  refine ⟨Γ', ?_, h2⟩
  rcases h1 with h1 | h1
  · obtain ⟨Γ1, h3, h4⟩ := turnF_some h1 (fun z => nomatch z)
    exact ⟨Γ1, h3, .inl h4⟩
  · obtain ⟨Γ1, h3, h4⟩ := turnF_some h1 (fun z => nomatch z)
    exact ⟨Γ1, h3, .inr h4⟩
/-- .. told by a state -/
theorem forL_s (emb : S → Ev) (e : ι → D) (next : S → ι → S) (I : List ι → S → Prop) (xs : List ι) (s : S) (hI : I xs s) (h : ∀ x xs s, I (x :: xs) s → Goes (turnF g f (e x) (emb s)) (emb (next s x)) ∧ I xs (next s x)) :
    forL g f (xs.map e) (emb s) = .nx (emb (xs.foldl next s)) := by
  obtain ⟨Γ', h1, h2⟩ := forL_x (g := g) (f := f) e (fun l Γ => ∃ s', Γ = emb s' ∧ I l s' ∧ l.foldl next s' = xs.foldl next s) (fun x l Γ ⟨s', e1, i, e2⟩ => by
    subst e1
    obtain ⟨h1, h2⟩ := h x l s' i
    exact ⟨_, h1, _, rfl, h2, e2⟩) xs (emb s) ⟨s, rfl, hI, rfl⟩
  obtain ⟨s', e1, _, e2⟩ := h2
  rw [h1, e1, ← e2]
  rfl
/-- .. that leaves all as it is -/
theorem forL_k (e : ι → D) (xs : List ι) (h : ∀ x ∈ xs, Goes (turnF g f (e x) Γ) Γ) : forL g f (xs.map e) Γ = .nx Γ :=
  forL_s (S := Unit) (fun _ => Γ) e (fun _ _ => ()) (fun l _ => ∀ x ∈ l, x ∈ xs) xs () (fun _ h => h) fun x l s hl => ⟨h x (hl x List.mem_cons_self), fun y hy => hl y (List.mem_cons_of_mem _ hy)⟩
/-- .. that leaves the def at the first item that is so -/
theorem forL_f (e : ι → D) (bad : ι → Bool) (o : ι → Out) (xs : List ι) (ho : ∀ x ∈ xs, (∃ av Γ, o x = .rt av Γ) ∨ ∃ n l Γ, o x = .ex n l Γ) (h : ∀ x ∈ xs, if bad x = true then turnF g f (e x) Γ = o x else Goes (turnF g f (e x) Γ) Γ) :
    forL g f (xs.map e) Γ = (match xs.find? bad with
      | some x => o x
      | none => .nx Γ) := by
  induction xs with
  | nil => rfl
  | cons x xs ih =>
    have hx := h x List.mem_cons_self
    have ih := ih (fun y hy => ho y (List.mem_cons_of_mem _ hy)) fun y hy => h y (List.mem_cons_of_mem _ hy)
    rw [List.map_cons, forL, List.find?_cons]
    cases hb : bad x with
    | true =>
      rw [if_pos hb] at hx
      have hox := ho x List.mem_cons_self
      obtain ⟨Γ1, h1, h2⟩ := turnF_some hx (by rcases hox with ⟨_, _, q⟩ | ⟨_, _, _, q⟩ <;> rw [q] <;> exact fun z => nomatch z)
      rw [h1]
      dsimp only
      rw [h2]
      rcases hox with ⟨_, _, q⟩ | ⟨_, _, _, q⟩ <;> rw [q]
    | false =>
      rw [if_neg (by rw [hb]; decide)] at hx
      rcases hx with hx | hx
      · obtain ⟨Γ1, h1, h2⟩ := turnF_some hx (fun z => nomatch z)
        rw [h1]
        dsimp only
        rw [h2]
        exact ih
      · obtain ⟨Γ1, h1, h2⟩ := turnF_some hx (fun z => nomatch z)
        rw [h1]
        dsimp only
        rw [h2]
        exact ih
def kC3 (Γ0 : Ev) : Rs D → Option (Option D × Ev)
  | .ok y Γ => some (some y, anchor Γ0 Γ)
  | _ => none
def kC2 (Γ0 : Ev) (fe : Ev → Rs D) : Rs Bool → Option (Option D × Ev)
  | .ok b Γ => if b = true then kC3 Γ0 (fe Γ) else some (none, anchor Γ0 Γ)
  | _ => none
def kC1 (Γ0 : Ev) (t : Ev → Rs Bool) (fe : Ev → Rs D) : Option Ev → Option (Option D × Ev)
  | some Γ => kC2 Γ0 fe (t Γ)
  | none => none
def turnC (Γ0 : Ev) (g : TgF) (t : Ev → Rs Bool) (fe : Ev → Rs D) (d : D) (Γ : Ev) : Option (Option D × Ev) := kC1 Γ0 t fe (g d Γ)
theorem turnC_ap : turnC Γ0 g t fe d Γ = kC1 Γ0 t fe (g d Γ) := rfl
theorem kC1_ap : kC1 Γ0 t fe (some Γ) = kC2 Γ0 fe (t Γ) := rfl
theorem kC2_ap : kC2 Γ0 fe (.ok b Γ) = if b = true then kC3 Γ0 (fe Γ) else some (none, anchor Γ0 Γ) := rfl
theorem kC3_ap : kC3 Γ0 (.ok y Γ) = some (some y, anchor Γ0 Γ) := rfl
theorem compL_turn {r : List D} {acc : List D} {o : Option D} {Γ' : Ev} (h : turnC Γ0 g t fe d Γ = some (o, Γ')) (hl : acc.length < sizeLine) : compL Γ0 g t fe (d :: r) acc Γ = compL Γ0 g t fe r (acc ++ o.toList) Γ' := by
  unfold turnC at h
  rw [compL]
  cases hg : g d Γ with
  | none => rw [hg] at h; cases h
  | some Γ1 =>
    rw [hg, kC1_ap] at h
    dsimp only
    cases ht : t Γ1 with
    | ok b Γ2 =>
      rw [ht, kC2_ap] at h
      cases b with
      | true =>
        rw [if_pos rfl] at h
        dsimp only
        cases hf : fe Γ2 with
        | ok y Γ3 =>
          rw [hf] at h
          cases h
          dsimp only
          rw [if_pos hl]
          rfl
        | ex _ _ _ => rw [hf] at h; cases h
        | bad => rw [hf] at h; cases h
      | false =>
        rw [if_neg (by decide)] at h
        cases h
        dsimp only
        rw [Option.toList_none, List.append_nil]
    | ex _ _ _ => rw [ht] at h; cases h
    | bad => rw [ht] at h; cases h
theorem compL_x (e : ι → D) (R : List ι → List D → Ev → Prop) (h : ∀ x xs acc Γ, R (x :: xs) acc Γ → ∃ o Γ', turnC Γ0 g t fe (e x) Γ = some (o, Γ') ∧ R xs (acc ++ o.toList) Γ') :
    ∀ (xs : List ι) (acc : List D) (Γ : Ev), R xs acc Γ → acc.length + xs.length ≤ sizeLine → ∃ acc' Γ', compL Γ0 g t fe (xs.map e) acc Γ = some (acc', Γ') ∧ R [] acc' Γ'
  | [], acc, Γ, r, _ => ⟨acc, Γ, rfl, r⟩
  | x :: xs, acc, Γ, r, hl => by
    rw [List.length_cons] at hl
    obtain ⟨o, Γ', h1, h2⟩ := h x xs acc Γ r
    rw [List.map_cons, compL_turn h1 (by omega)]
    exact compL_x e R h xs _ Γ' h2 (by
      rw [List.length_append]
      cases o with
      | none => rw [Option.toList_none, List.length_nil]; omega
      | some _ => rw [Option.toList_some, List.length_singleton]; omega)
/-- .. that hangs on no state -/
theorem compL_q (e : ι → D) (test : ι → Bool) (val : ι → D) (xs : List ι) (h : ∀ x ∈ xs, turnC Γ0 g t fe (e x) Γ = some (if test x = true then some (val x) else none, Γ)) (hl : xs.length ≤ sizeLine) :
    compL Γ0 g t fe (xs.map e) [] Γ = some ((xs.filter test).map val, Γ) := by
  obtain ⟨acc', Γ', h1, h2, h3⟩ := compL_x (Γ0 := Γ0) (g := g) (t := t) (fe := fe) e (fun l acc Γ' => (∀ x ∈ l, x ∈ xs) ∧ acc ++ (l.filter test).map val = (xs.filter test).map val ∧ Γ' = Γ) (fun x l acc Γ' ⟨a, b, c⟩ => by
    subst c
    refine ⟨_, _, h x (a x List.mem_cons_self), fun y hy => a y (List.mem_cons_of_mem _ hy), ?_, rfl⟩
    rw [← b, List.filter_cons]
    cases ht : test x with
    | true => simp
    | false => simp) xs [] Γ ⟨fun _ h => h, rfl, rfl⟩ (by simpa using hl)
  rw [h1, h3.2, ← h3.1]
  simp
theorem compL_a (e : ι → D) (val : ι → D) (xs : List ι) (h : ∀ x ∈ xs, turnC Γ0 g t fe (e x) Γ = some (some (val x), Γ)) (hl : xs.length ≤ sizeLine) :
    compL Γ0 g t fe (xs.map e) [] Γ = some (xs.map val, Γ) := by
  rw [compL_q e (fun _ => true) val xs (fun x hx => by rw [h x hx, if_pos rfl]) hl, List.filter_eq_self.mpr fun _ _ => rfl]
def kN3 (Γ0 : Ev) : Option (α × Ev) → Option (α × Ev)
  | some p => some (p.1, anchor Γ0 p.2)
  | none => none
def kN2 (body : α → Ev → Option (α × Ev)) (Γ0 : Ev) (acc : α) : Rs Bool → Option (α × Ev)
  | .ok b Γ => if b = true then kN3 Γ0 (body acc Γ) else some (acc, anchor Γ0 Γ)
  | _ => none
def kN1 (body : α → Ev → Option (α × Ev)) (Γ0 : Ev) (t : Ev → Rs Bool) (acc : α) : Option Ev → Option (α × Ev)
  | some Γ => kN2 body Γ0 acc (t Γ)
  | none => none
def turnN (body : α → Ev → Option (α × Ev)) (Γ0 : Ev) (g : TgF) (t : Ev → Rs Bool) (d : D) (acc : α) (Γ : Ev) : Option (α × Ev) := kN1 body Γ0 t acc (g d Γ)
theorem turnN_ap {acc : α} : turnN body Γ0 g t d acc Γ = kN1 body Γ0 t acc (g d Γ) := rfl
theorem kN1_ap {acc : α} : kN1 body Γ0 t acc (some Γ) = kN2 body Γ0 acc (t Γ) := rfl
theorem kN2_ap {acc : α} : kN2 body Γ0 acc (.ok b Γ) = if b = true then kN3 Γ0 (body acc Γ) else some (acc, anchor Γ0 Γ) := rfl
theorem kN3_ap {acc : α} : kN3 Γ0 (some (acc, Γ)) = some (acc, anchor Γ0 Γ) := rfl
def kBN (acc : List D) : Rs D → Option (List D × Ev)
  | .ok y Γ' => if acc.length < sizeLine then some (acc ++ [y], Γ') else none
  | _ => none
theorem kBN_ap {acc : List D} : kBN acc (.ok y Γ) = if acc.length < sizeLine then some (acc ++ [y], Γ) else none := rfl
theorem bodyN_nil {acc : List D} : bodyN fe [] acc Γ = kBN acc (fe Γ) := by
  unfold bodyN kBN
  cases fe Γ <;> rfl
def kBC (fe : Ev → Rs D) (cs : List DCl) (c : DCl) (acc : List D) : Rs (List D) → Option (List D × Ev)
  | .ok items Γ1 => loopN (bodyN fe cs) (wipeG Γ1 c.vs) c.g c.t items acc (wipeG Γ1 c.vs)
  | _ => none
theorem kBC_ap {acc items : List D} : kBC fe cs c acc (.ok items Γ) = loopN (bodyN fe cs) (wipeG Γ c.vs) c.g c.t items acc (wipeG Γ c.vs) := rfl
theorem bodyN_cons {acc : List D} : bodyN fe (c :: cs) acc Γ = kBC fe cs c acc (c.src Γ) := by
  conv => lhs; unfold bodyN
  unfold kBC
  cases c.src Γ <;> rfl
def kBD2 (acc : List (D × D)) (k : D) : Rs D → Option (List (D × D) × Ev)
  | .ok v Γ => if k.key.isSome = true ∧ acc.length < sizeLine then some (dput acc k v, Γ) else none
  | _ => none
def kBD1 (fv : Ev → Rs D) (acc : List (D × D)) : Rs D → Option (List (D × D) × Ev)
  | .ok k Γ => kBD2 acc k (fv Γ)
  | _ => none
theorem kBD1_ap {acc : List (D × D)} : kBD1 fv acc (.ok y Γ) = kBD2 acc y (fv Γ) := rfl
theorem kBD2_ap {acc : List (D × D)} {k : D} : kBD2 acc k (.ok y Γ) = if k.key.isSome = true ∧ acc.length < sizeLine then some (dput acc k y, Γ) else none := rfl
theorem bodyD_ap {acc : List (D × D)} : bodyD fk fv acc Γ = kBD1 fv acc (fk Γ) := by
  unfold bodyD kBD1 kBD2
  cases fk Γ with
  | ok k Γ1 => cases fv Γ1 <;> rfl
  | _ => rfl
end
theorem tn_if {α : Type} {p : Prop} [Decidable p] {a b : α} {Γ : Ev} : (if p then some (a, Γ) else some (b, Γ) : Option (α × Ev)) = some (if p then a else b, Γ) := by split <;> rfl
section
variable {l : List D} {z : Str} {ps : List (D × D)}
theorem it_lst : itemsD (.lst l) = some l := rfl
theorem it_tup : itemsD (.tup l) = some l := rfl
theorem it_fz : itemsD (.fz l) = some l := rfl
theorem it_str : itemsD (.str z) = some (chD z) := rfl
theorem it2_lst : itemsD2 (.lst l) = some l := rfl
theorem it2_tup : itemsD2 (.tup l) = some l := rfl
theorem it2_fz : itemsD2 (.fz l) = some l := rfl
theorem it2_str : itemsD2 (.str z) = some (chD z) := rfl
theorem it2_dct : itemsD2 (.dct ps) = some (ps.map (·.1)) := rfl
end
theorem tc_if {p : Prop} [Decidable p] {v : D} {Γ : Ev} : (if p then some (some v, Γ) else some (none, Γ) : Option (Option D × Ev)) = some (if p then some v else none, Γ) := by split <;> rfl
theorem goes_nx {Γ : Ev} : Goes (.nx Γ) Γ := .inl rfl
theorem goes_ct {Γ : Ev} : Goes (.ct Γ) Γ := .inr rfl
end Nv
-- N43
namespace Nv
open PySem PySem.Spec PyProof.Rows L2
theorem fc_Machine_signs : (("Machine" : Str) ∈ ([("Machine" : Str), ("Rule" : Str), ("Edits" : Str), ("Table" : Str)] : List Str)) = True := eq_true (by decide)
theorem fp_Machine_signs {a0 : D} : putD ("signs" : Str) a0 [] = [(("signs" : Str), a0)] := rfl
theorem fg_Machine_signs_0 {a0 : D} : gFld ("signs" : Str) [("Machine" : Str), ("Rule" : Str), ("Edits" : Str), ("Table" : Str)] (.ins ("Machine" : Str) [(("signs" : Str), a0)]) = some (.dat a0) := rfl
theorem fg_Machine_signs_1 {a0 a1 : D} : gFld ("signs" : Str) [("Machine" : Str), ("Rule" : Str), ("Edits" : Str), ("Table" : Str)] (.ins ("Machine" : Str) [(("signs" : Str), a0), (("rows" : Str), a1)]) = some (.dat a0) := rfl
theorem fg_Machine_signs_2 {a0 a1 a2 : D} : gFld ("signs" : Str) [("Machine" : Str), ("Rule" : Str), ("Edits" : Str), ("Table" : Str)] (.ins ("Machine" : Str) [(("signs" : Str), a0), (("rows" : Str), a1), (("ends" : Str), a2)]) = some (.dat a0) := rfl
theorem fg_Machine_signs_3 {a0 a1 a2 a3 : D} : gFld ("signs" : Str) [("Machine" : Str), ("Rule" : Str), ("Edits" : Str), ("Table" : Str)] (.ins ("Machine" : Str) [(("signs" : Str), a0), (("rows" : Str), a1), (("ends" : Str), a2), (("all_keys" : Str), a3)]) = some (.dat a0) := rfl
theorem fc_Machine_rows : (("Machine" : Str) ∈ ([("Machine" : Str), ("Edits" : Str), ("Table" : Str), ("Reading" : Str)] : List Str)) = True := eq_true (by decide)
theorem fp_Machine_rows {a0 a1 : D} : putD ("rows" : Str) a1 [(("signs" : Str), a0)] = [(("signs" : Str), a0), (("rows" : Str), a1)] := rfl
theorem fg_Machine_rows_1 {a0 a1 : D} : gFld ("rows" : Str) [("Machine" : Str), ("Edits" : Str), ("Table" : Str), ("Reading" : Str)] (.ins ("Machine" : Str) [(("signs" : Str), a0), (("rows" : Str), a1)]) = some (.dat a1) := rfl
theorem fg_Machine_rows_2 {a0 a1 a2 : D} : gFld ("rows" : Str) [("Machine" : Str), ("Edits" : Str), ("Table" : Str), ("Reading" : Str)] (.ins ("Machine" : Str) [(("signs" : Str), a0), (("rows" : Str), a1), (("ends" : Str), a2)]) = some (.dat a1) := rfl
theorem fg_Machine_rows_3 {a0 a1 a2 a3 : D} : gFld ("rows" : Str) [("Machine" : Str), ("Edits" : Str), ("Table" : Str), ("Reading" : Str)] (.ins ("Machine" : Str) [(("signs" : Str), a0), (("rows" : Str), a1), (("ends" : Str), a2), (("all_keys" : Str), a3)]) = some (.dat a1) := rfl
theorem fc_Machine_ends : (("Machine" : Str) ∈ ([("Machine" : Str)] : List Str)) = True := eq_true (by decide)
theorem fp_Machine_ends {a0 a1 a2 : D} : putD ("ends" : Str) a2 [(("signs" : Str), a0), (("rows" : Str), a1)] = [(("signs" : Str), a0), (("rows" : Str), a1), (("ends" : Str), a2)] := rfl
theorem fg_Machine_ends_2 {a0 a1 a2 : D} : gFld ("ends" : Str) [("Machine" : Str)] (.ins ("Machine" : Str) [(("signs" : Str), a0), (("rows" : Str), a1), (("ends" : Str), a2)]) = some (.dat a2) := rfl
theorem fg_Machine_ends_3 {a0 a1 a2 a3 : D} : gFld ("ends" : Str) [("Machine" : Str)] (.ins ("Machine" : Str) [(("signs" : Str), a0), (("rows" : Str), a1), (("ends" : Str), a2), (("all_keys" : Str), a3)]) = some (.dat a2) := rfl
theorem fc_Machine_all_keys : (("Machine" : Str) ∈ ([("Machine" : Str), ("Rule" : Str)] : List Str)) = True := eq_true (by decide)
theorem fp_Machine_all_keys {a0 a1 a2 a3 : D} : putD ("all_keys" : Str) a3 [(("signs" : Str), a0), (("rows" : Str), a1), (("ends" : Str), a2)] = [(("signs" : Str), a0), (("rows" : Str), a1), (("ends" : Str), a2), (("all_keys" : Str), a3)] := rfl
theorem fg_Machine_all_keys_3 {a0 a1 a2 a3 : D} : gFld ("all_keys" : Str) [("Machine" : Str), ("Rule" : Str)] (.ins ("Machine" : Str) [(("signs" : Str), a0), (("rows" : Str), a1), (("ends" : Str), a2), (("all_keys" : Str), a3)]) = some (.dat a3) := rfl
theorem fm_Machine_after {a0 a1 a2 a3 : D} : isIns ("Machine" : Str) ("after" : Str) (.ins ("Machine" : Str) [(("signs" : Str), a0), (("rows" : Str), a1), (("ends" : Str), a2), (("all_keys" : Str), a3)]) = true := rfl
theorem fm_Machine_far_keys {a0 a1 a2 a3 : D} : isIns ("Machine" : Str) ("far_keys" : Str) (.ins ("Machine" : Str) [(("signs" : Str), a0), (("rows" : Str), a1), (("ends" : Str), a2), (("all_keys" : Str), a3)]) = true := rfl
theorem fm_Machine_keys_of {a0 a1 a2 a3 : D} : isIns ("Machine" : Str) ("keys_of" : Str) (.ins ("Machine" : Str) [(("signs" : Str), a0), (("rows" : Str), a1), (("ends" : Str), a2), (("all_keys" : Str), a3)]) = true := rfl
theorem fm_Machine_read {a0 a1 a2 a3 : D} : isIns ("Machine" : Str) ("read" : Str) (.ins ("Machine" : Str) [(("signs" : Str), a0), (("rows" : Str), a1), (("ends" : Str), a2), (("all_keys" : Str), a3)]) = true := rfl
end Nv
-- N44
namespace Nv
open PySem PySem.Spec PyProof.Rows L2
open Evl (Ex)
section
variable {M : Md} {F : Hp}
end
section
variable {X : Cx} {c : Cf} {e : Expr} {es : List Expr} {f : Ev → Rs (List OV)} {p pos : Pos}
end
end Nv
-- N45
namespace Nv
open PySem PySem.Spec PyProof.Rows L2
open Evl (Ex)
section
variable {X : Cx}
end
section
variable {X : Cx} {c : Cf} {e : Expr} {es : List Expr} {f : Ev → Rs (List OV)} {p pos : Pos}
end
section
variable {X : Cx} {c : Cf} {e : Expr} {es : List Expr} {f : Ev → Rs (List OV)} {p pos : Pos}
end
end Nv
-- N47
namespace Nv
open PySem PySem.Spec PyProof.Rows L2
open Evl (Ex)
section
variable {X : Cx} {c : Cf} {pos : Pos}
end
end Nv
-- N46
namespace Nv
open PySem PySem.Spec PyProof.Rows L2
open Evl (Ex)
section
variable {P : Program} {w : World} {K : Type} [DecidableEq K] {knd : KeyKind P w K} {A : Around} {E : Value → Shared → Prop} {s : Shared}
end
section
variable {X : Cx}
end
section
variable {X : Cx} {c : Cf}
end
end Nv
-- N48
namespace Nv
open PySem PySem.Spec PyProof.Rows L2
open Evl (Ex)
section
variable {X : Cx}
end
section
variable {X : Cx} {c : Cf}
end
end Nv
-- N49
namespace Nv
open PySem PySem.Spec PyProof.Rows L2
open Evl (Ex)
section
variable {X : Cx} {c : Cf} {e : Expr} {apos cpos : Pos}
end
end Nv
-- N50
namespace Nv
open PySem PySem.Spec PyProof.Rows L2
open Evl (Ex)
section
variable {X : Cx} {c : Cf} {a b : Expr} {fa fb : Ev → Rs OV} {pos : Pos}
end
section
variable {X : Cx} {c : Cf} {e : Expr} {es : List Expr} {f : Ev → Rs (List OV)} {p pos : Pos}
end
end Nv
-- N51
namespace Nv
open PySem PySem.Spec PyProof.Rows L2
open Evl (Ex)
open PySem.W (alike dataLt rcLt_alike)
end Nv
-- N52
set_option maxHeartbeats 8000000
namespace PySem
namespace HandSPX
open Builtin Builtin.ObjectAttr
open Sem (wp)
section
variable {M : Model} {A : Around} {E : Value → Shared → Prop} {h : Heap} {g : Array GenState} {d : Drawn} {t : Nat} {os : OsState}
variable {nm q : Str} {C N : Addr} {bs bm bmB : List Value} {hdct : Bool} {sn : List Str} {sub : List Value} {ab : Bool} {col : Option Bool} {dd : Option Addr} {k0 k1 k2 k3 k5 : Option Value} {B newId initId : String}
end
section
variable {prog : Program} {w : World} {A : Around} {E : Value → Shared → Prop} {R : Result → Shared → Prop} {h : Heap} {g : Array GenState} {d : Drawn} {t : Nat} {os : OsState}
variable {nm q : Str} {C N : Addr} {bs bm bmB : List Value} {hdct : Bool} {sn : List Str} {sub : List Value} {ab : Bool} {col : Option Bool} {dd : Option Addr} {k0 k1 k2 k3 k5 : Option Value} {B newId initId : String}
end
end HandSPX
end PySem
-- N53
namespace Nv
open PySem PySem.Spec PyProof.Rows L2 NdefX
open Evl (Ex)
section
variable {X : Cx} {pins : List (Addr × Obj)} {σ : L2.St} {H1 : Hp} {Q : XK} {C fI : Addr} {fd : FuncData} {N ps : List Str} {t : TS} {ns : List Str} {k : Nat} {us : List Value} {vs : List V} {s1 : Shared}
end
section
variable {X : Cx} {e : Expr}
end
section
variable {X : Cx} {x : Str} {p pos : Pos} {k : Nat} {ns ks : List Str} {kws : List Keyword} {tk : TA}
end
section
variable {X : Cx} {c : Cf} {x : Str} {ns : List Str} {f : Ev → Rs (List OV)} {C : Addr} {σ : L2.St} {H : Hp} {Q : VK}
theorem PK.of {kws : List Keyword} {t t' : TA} (h : PK X kws t) (i : ∀ σ H Q, t' σ H Q → t σ H Q) : PK X kws t' := ⟨fun pos pins s σ H Q I q => h.run pos pins s σ H Q I (i σ H Q q)⟩
section
variable {p pos : Pos} {k k' : Nat} {ks : List Str} {kws : List Keyword} {e : Expr} {es : List Expr}
end
end
section
variable {P : Program} {w : World} {K : PySem.W.Frag} {mg : Str → Option Value} {base : Heap} {n f g y z qual : Str} {C fI c cc : Addr} {fd : FuncData} {params : Arguments} {body : List Stmt} {scope : Scope}
end
end Nv
-- N54
namespace Nv
open PySem PySem.Spec PyProof.Rows L2
open Evl (Ex)
/-- nothing is handled, as far as a frame's marks go -/
def calmA (A : Around) : Around := { A with handled := none }
/-- the body's context -/
def cxN (CX : CXT) (P : Program) (w : World) (K : PySem.W.Frag) (mg : Str → Option Value) (base : Heap) (N : List Str) (qual : Str) (scope : Scope) (f : Addr) (cd : Value) (A : Around) (outer : List Env) (s : Shared) (H : Hp) (E : XK) : Cx :=
  { cxOf CX P w K mg base N qual scope f cd A outer s H E with calm := false }
theorem inv_startN {CX : CXT} {P : Program} {w : World} {K : PySem.W.Frag} {mg : Str → Option Value} {base : Heap} {N ps : List Str} {qual : Str} {scope : Scope} {f : Addr} {cd : Value} {A : Around} {outer : List Env} {s s1 : Shared} {H : Hp} {E : XK} {us : List Value} {vs : List V}
    (S : FnScope N ps scope) (e0 : Env0 P w K mg base A outer s H) (hl : vs.length = ps.length) (r : Vals vs us)
    (x : InCallC s s.heap.objs.size (bindL (envOfC qual scope s.heap.objs.size f cd).kindOf (ps.zip us) fun _ => none) (cellsFrom (s.heap.objs.size + 1) scope.names []) (bindC (envOfC qual scope s.heap.objs.size f cd).kindOf (ps.zip us) fun _ => none) s1) :
    Inv (cxN CX P w K mg base N qual scope f cd A outer s H E) [] (L2.start N vs) H s1 := by
  have I : Inv (cxOf CX P w K mg base N qual scope f cd (calmA A) outer s H E) [] (L2.start N vs) H s1 := inv_start S rfl ⟨e0.frames, e0.mod, e0.bs, e0.bsz, e0.funs, e0.frf, e0.hok, e0.bare⟩ hl r x
  have o := I.ok
  exact ⟨⟨o.mod, o.kind, o.glob, o.blt, o.above, o.inj, o.has, o.cab, (fun z => Bool.noConfusion (show false = true from z)), Around.frames_deeper e0.frames, o.stk, o.exf, o.bs, o.bsz, o.noex, o.exfs, o.funs, o.frf⟩, I.os, I.bare, I.base, I.loc, I.cell, I.free, I.freeC, I.pin, I.hok, I.len⟩
open L2H (RoomH roomH_of)
/-- what such a def promises -/
structure FnN (P : Program) (w : World) (K : PySem.W.Frag) (mg : Str → Option Value) (base : Heap) (CX : CXT) (k : Nat) (f : Addr) (fd : FuncData) (ps : List Str) (sp : Sp) : Prop where
  len : ∀ vs H Q E, sp vs H Q E → vs.length = ps.length
  run : ∀ (A : Around) (outer : List Env) (s : Shared) (H : Hp) (args : Args) (us : List Value) (vs : List V) (Q : VK) (E : XK), RoomH k A → Env0 P w K mg base A outer s H → BindsTo s fd args (ps.zip us) → Vals vs us → sp vs H Q E →
    codeAny (model P w) A (.call (.ref f) args) (CR CX outer P w H s Q E) s
/-- such a def by its name -/
structure DefOkN (P : Program) (w : World) (K : PySem.W.Frag) (mg : Str → Option Value) (base : Heap) (k : Nat) (x : Str) (n : Nat) (g : List AV → FR) : Prop where
  ex : ∃ (f : Addr) (fd : FuncData) (ps : List Str), mg x = some (.ref f) ∧ PySem.W.keepIn K (.ref f) = true ∧ Binds K fd ps [] ∧ ps.length = n ∧ FnN P w K mg base (L2.CX P w) k f fd ps (spD ⟨K, mg⟩ n g)
theorem FnN.ok {P : Program} {w : World} {K : PySem.W.Frag} {mg : Str → Option Value} {base : Heap} {CX : CXT} {k : Nat} {f : Addr} {fd : FuncData} {ps : List Str} {sp : Sp} (F : FnN P w K mg base CX k f fd ps sp) : FnOk P w K mg base CX k f fd ps sp :=
  ⟨F.len, fun A outer s H args us vs Q E hr e0 hb r h => F.run A outer s H args us vs Q E ⟨hr.dp, hr.un⟩ e0 hb r h⟩
theorem DefOkN.ok {P : Program} {w : World} {K : PySem.W.Frag} {mg : Str → Option Value} {base : Heap} {k : Nat} {x : Str} {n : Nat} {g : List AV → FR} (D : DefOkN P w K mg base k x n g) : DefOk P w K mg base k x n g := by
  obtain ⟨f, fd, ps, h1, h2, h3, h4, F⟩ := D.ex
  exact ⟨f, fd, ps, h1, h2, h3, h4, F.ok⟩
section
variable {X : Cx} {CX : CXT} {c : Cf} {x : Str} {p pos q : Pos} {e : Expr} {es : List Expr} {k k' n : Nat} {g : List AV → FR} {f0 : Addr} {fd : FuncData} {ps : List Str} {sp : Sp} {E : L2.St → XK} {f : Ev → Rs (List OV)} {t : TA}
end
end Nv
-- N55
namespace Nv
open PySem PySem.Spec PyProof.Rows L2
open Evl (Ex)
section
variable {X : Cx} {CX : CXT} {k : Nat} {f : Addr} {fd : FuncData} {ps : List Str} {sp : Sp} {E : L2.St → XK}
end
/-- an own one's special method -/
structure SpOk (P : Program) (w : World) (K : PySem.W.Frag) (mg : Str → Option Value) (base : Heap) (k : Nat) (cn m : Str) (n : Nat) (g : List AV → FR) : Prop where
  ex : ∃ (C f : Addr) (fd : FuncData) (ps : List Str), mg cn = some (.ref C) ∧ PySem.W.findIn K (.ref C) m = some (some (.ref f)) ∧ PySem.W.isFn K (.ref f) = true ∧ Binds K fd ps [] ∧ ps.length = n ∧ FnOk P w K mg base (L2.CX P w) k f fd ps (spD ⟨K, mg⟩ n g)
section
variable {c : Cf} {σ : L2.St} {F H : Hp} {Γ : Ev} {r : Rs AV} {Q : VK}
end
section
variable {X : Cx} {CX : CXT} {k : Nat} {f C : Addr} {fd : FuncData} {ps : List Str} {sp : Sp} {E : L2.St → XK} {a b e : Expr} {ta tb : TE} {t : TA} {pos p : Pos}
end
section
variable {X : Cx} {c : Cf} {cn : Str} {a b e : Expr} {pos p : Pos} {k k' : Nat} {g : List AV → FR} {fa fb : Ev → Rs D}
end
section
variable {Γ : Ev} {cn : Str} {g : List AV → FR} {fa fb : Ev → Rs D} {d d1 d2 : D} {p1 p2 : D → Bool} {fin : Rs AV → Rs AV} {l : List (Str × D)} {z : Str} {ps : List (D × D)} {bb : Bool} {i : Int} {n : Str} {xl : List (Str × D)}
end
end Nv
-- N56
namespace Nv
open PySem PySem.Spec PyProof.Rows L2
open Evl (Ex)
section
variable {X : Cx}
end
section
variable {X : Cx} {c : Cf}
end
section
variable {X : Cx} {e : Expr} {te : TE} {p apos cpos pos : Pos}
end
section
variable {X : Cx} {c : Cf} {e : Expr} {es : List Expr} {f : Ev → Rs (List OV)} {p pos : Pos}
end
structure SpOkN (P : Program) (w : World) (K : PySem.W.Frag) (mg : Str → Option Value) (base : Heap) (k : Nat) (cn m : Str) (n : Nat) (g : List AV → FR) : Prop where
  ex : ∃ (C f : Addr) (fd : FuncData) (ps : List Str), mg cn = some (.ref C) ∧ PySem.W.findIn K (.ref C) m = some (some (.ref f)) ∧ PySem.W.isFn K (.ref f) = true ∧ Binds K fd ps [] ∧ ps.length = n ∧ FnN P w K mg base (L2.CX P w) k f fd ps (spD ⟨K, mg⟩ n g)
theorem SpOkN.ok {P : Program} {w : World} {K : PySem.W.Frag} {mg : Str → Option Value} {base : Heap} {k : Nat} {cn m : Str} {n : Nat} {g : List AV → FR} (D : SpOkN P w K mg base k cn m n g) : SpOk P w K mg base k cn m n g := by
  obtain ⟨C, f, fd, ps, h1, h2, h3, h4, h5, F⟩ := D.ex
  exact ⟨C, f, fd, ps, h1, h2, h3, h4, h5, F.ok⟩
section
variable {X : Cx} {c : Cf} {CX : CXT} {cn : Str} {k k' : Nat} {g : List AV → FR} {fa fb : Ev → Rs D} {f C : Addr} {fd : FuncData} {ps : List Str} {sp : Sp} {E : L2.St → XK} {a b : Expr} {ta tb : TE} {pos : Pos}
end
end Nv
-- N57
namespace Nv
open PySem PySem.Spec PyProof.Rows L2
open Evl (Ex)
section
variable {X : Cx} {c : Cf} {e : Expr} {es : List Expr} {pos p : Pos} {f : Ev → Rs (List OV)} {L : List Str}
end
end Nv
-- N58
namespace Nv
open PySem PySem.Spec PyProof.Rows L2
open Evl (Ex)
theorem get_push {α : Type} {l : List α} {x y : α} {i : Nat} (h : (l ++ [x])[i]? = some y) : l[i]? = some y ∨ (i = l.length ∧ y = x) := by
  by_cases z : i < l.length
  · rw [List.getElem?_append_left z] at h
    exact .inl h
  · rw [List.getElem?_append_right (by omega)] at h
    have e : i - l.length = 0 := by
      rcases Nat.lt_or_ge 0 (i - l.length) with q | q
      · rw [List.getElem?_eq_none (by rw [List.length_singleton]; omega)] at h; cases h
      · omega
    rw [e] at h
    cases h
    exact .inr ⟨by omega, rfl⟩
theorem get_pushR {α : Type} {l : List α} {x : α} : (l ++ [x])[l.length]? = some x := by
  rw [List.getElem?_append_right (Nat.le_refl _), Nat.sub_self]; rfl
section
variable {M : Md} {σ0 σ : L2.St} {F H : Hp} {Γ : Ev} {x : Addr} {o : O}
theorem Rel.push (r : Rel M σ0 F H σ Γ) (hx : F x = Option.none) (ho : ORep M F H x o) (no : ¬ Nv.own σ Γ x) : Rel M σ0 F H (σ ++ [some (.ref x)]) (Γ ++ [.own Option.none o]) := by
  refine ⟨r.sub, by rw [List.length_append, List.length_append, r.len]; rfl, fun i s g h1 h2 => ?_, fun i j t o1 t' o2 a h1 h2 h3 h4 => ?_, r.tab⟩
  · rcases get_push h2 with h2 | ⟨e, hg⟩
    · rcases get_push h1 with h1 | ⟨e2, _⟩
      · exact r.slot i s g h1 h2
      · have := (List.getElem?_eq_some_iff.mp h2).1
        have := r.len
        omega
    · subst e
      rw [← r.len, get_pushR] at h1
      cases h1
      subst hg
      exact ⟨x, rfl, hx, ho, fun k hk => nomatch hk⟩
  · have c : ∀ {i : Nat} {t : Option Nat} {o' : O}, (Γ ++ [Slot.own Option.none o])[i]? = some (.own t o') → (σ ++ [some (V.ref x)])[i]? = some (some (.ref a)) → (Γ[i]? = some (.own t o') ∧ σ[i]? = some (some (.ref a))) ∨ (i = Γ.length ∧ a = x) := fun {i t o'} h1 h2 => by
      rcases get_push h1 with h1 | ⟨e, _⟩
      · rcases get_push h2 with h2 | ⟨e2, _⟩
        · exact .inl ⟨h1, h2⟩
        · have := (List.getElem?_eq_some_iff.mp h1).1
          have := r.len
          omega
      · subst e
        rw [← r.len, get_pushR] at h2
        cases h2
        exact .inr ⟨rfl, rfl⟩
    rcases c h1 h3 with ⟨a1, a2⟩ | ⟨a1, a2⟩ <;> rcases c h2 h4 with ⟨b1, b2⟩ | ⟨b1, b2⟩
    · exact r.sep i j _ _ _ _ a a1 b1 a2 b2
    · exact absurd ⟨i, t, o1, a1, b2 ▸ a2⟩ no
    · exact absurd ⟨j, t', o2, b1, a2 ▸ b2⟩ no
    · omega
end
section
variable {Γ Γ2 : Ev} {cn : Str} {n : Nat} {g : List AV → FR} {as : Ev → Rs (List OV)} {os : List OV} {al : List AV} {o : O} {t : Option Nat} {outs : Ev}
end
end Nv
-- N59
namespace Nv
open PySem PySem.Spec PyProof.Rows L2
open Evl (Ex)
mutual
/-- no dict within -/
def flat : D → Bool
  | .non => true
  | .bl _ => true
  | .int _ => true
  | .str _ => true
  | .tup l => flats l
  | .lst l => flats l
  | .fz _ => false
  | .dct _ => false
  | .dtt _ => false
  | .ins _ _ => false
  | .ty _ => true
  | .cls _ => true
  | .exn _ _ => false
  | .opq _ => true
  | .fnv _ _ _ => true
  | .exv _ d => flat d
def flats : List D → Bool
  | [] => true
  | d :: l => flat d && flats l
end
section
variable {M : Md} {F F' H H' : Hp}
end
def er (F : Hp) (d : Addr) : Hp := fun b => if b = d then none else F b
theorem pe_or {X : Cx} {e : Expr} {t1 t2 : TE} (h1 : PE X e t1) (h2 : PE X e t2) : PE X e (fun σ H Q => t1 σ H Q ∨ t2 σ H Q) := ⟨fun pins s σ H Q I h => h.elim (h1.run pins s σ H Q I) (h2.run pins s σ H Q I)⟩
section
variable {Γ : Ev} {i : Nat} {t : Option Nat} {l : List (D × D)} {f : Ev → Rs AV}
variable {G G' : Ev} {t' : Option Nat} {o o' : O} {d : D} {s : Slot}
end
end Nv
-- N60
namespace Nv
open PySem PySem.Spec PyProof.Rows L2
open Evl (Ex)
section
variable {M : Md} {F : Hp}
end
section
variable {X : Cx} {c : Cf} {tg e : Expr}
end
section
variable {prog : Program} {w : World} {K : Type} [DecidableEq K] {knd : KeyKind prog w K} {A : Around} {E : Value → Shared → Prop} {s : Shared}
end
section
variable {X : Cx} {c : Cf} {e : Expr} {es : List Expr} {f : Ev → Rs (List OV)} {p pos : Pos}
end
end Nv
-- N61
namespace Nv
open PySem PySem.Spec PyProof.Rows L2
open Evl (Ex)
section
variable {prog : Program} {w : World} {K : Type} [DecidableEq K] {knd : HeapKind prog w K}
end
theorem RepT.drop {M : Md} {F : Hp} (k : List Key) : ∀ {l : List (D × D)} {xs : List (List Key × V)}, RepT M F l xs → RepT M F (ddrop l (.tup (k.map kD))) (dropK xs k)
  | [], _, h => by cases repT_nil.mp h; exact repT_nil.mpr rfl
  | p :: l, _, h => by
    obtain ⟨q, v, r, rfl, ⟨h1, h0⟩, h2, h3⟩ := repT_cons.mp h
    have ih := RepT.drop k h3
    unfold ddrop dropK at ih ⊢
    rw [List.filter_cons, List.filter_cons, h1, keyT_eq]
    by_cases e : q = k
    · rw [decide_eq_true e, if_neg (by decide), if_neg (by simpa using e)]; exact ih
    · rw [decide_eq_false e, if_pos (by decide), if_pos (by simpa using e)]
      exact repT_cons.mpr ⟨q, v, _, rfl, ⟨h1, h0⟩, h2, ih⟩
section
variable {X : Cx} {c : Cf} {e ex : Expr} {cpos apos : Pos}
end
end Nv
-- N62
namespace Nv
open PySem PySem.Spec PyProof.Rows L2
open Evl (Ex)
section
variable {P : Program} {w : World} {K : PySem.W.Frag} {d : Addr} {o : Obj} {es : Array DictEntry} {ep : Nat}
end
section
variable {X : Cx} {e : Expr} {td : TE} {apos cpos : Pos}
end
end Nv
-- N63
namespace L2
open PySem PySem.Spec PyProof.Rows
section
variable {X : Cx}
end
end L2
namespace Nv
open PySem PySem.Spec PyProof.Rows L2
open Evl (Ex)
def Kt (M : Md) (F : Hp) (acc : List (D × D)) (u : HO) : Prop := ∃ xs, u = .dT xs ∧ RepT M F acc xs
theorem Kt.mono {M : Md} {F F' : Hp} {acc : List (D × D)} {u : HO} (e : Ex F F') (h : Kt M F acc u) : Kt M F' acc u := by
  obtain ⟨xs, h1, h2⟩ := h
  exact ⟨xs, h1, h2.mono e⟩
section
variable {Γ : Ev} {vs : List Nat} {gd : TgF} {t : Ev → Rs Bool} {d1 d2 : Ev → Rs D} {srcp : Ev → Rs (List D × List Nat)} {p : List D × List Nat}
end
end Nv
-- N64
namespace Nv
open PySem PySem.Spec PyProof.Rows L2
section
variable {Γ : Ev} {f : Ev → Rs OV} {fs : Ev → Rs (List OV)} {o : OV} {os : List OV} {i : Nat} {l : List (D × D)} {a b : Bool}
variable {fk fv : Ev → Rs D} {y : D}
end
end Nv
-- N65
namespace L2
open PySem PySem.Spec PyProof.Rows
def MaskOk5 (m : Nat) : Prop := m = 7 ∨ m = 15 ∨ m = 31 ∨ m = 63 ∨ m = 127
end L2
-- N66
namespace Nv
open PySem PySem.Spec PyProof.Rows L2
section
variable {P : Program} {w : World} {K : Type} [DecidableEq K] {knd : KeyKind P w K} {A : Around} {E : Value → Shared → Prop} {s : Shared} {a : Addr}
/-- KSet, and the mask is one of those that are known -/
def KM (knd : KeyKind P w K) (h : Heap) (a : Addr) (ks : List K) (m : Nat) : Prop :=
  ∃ o es ep t, h.get? a = some o ∧ o.ExactSet ∧ o.data = .set es ep t ∧ KsOf knd es.toList ks ∧ ks.Nodup ∧ es.size < scanBound ∧ t.fits es.size = true ∧ Ris t.place.toList ∧ (w.params.followText "set-order" = true ∨ t.led = true) ∧ MaskOk5 t.mask ∧ m ≤ t.mask ∧ t.dummies = #[]
theorem KM.ks {h : Heap} {ks : List K} {m : Nat} (r : KM knd h a ks m) : KSet knd h a ks := by
  obtain ⟨o, es, ep, t, h1, h2, h3, h4, h5, h6, h7, h8, h9, _⟩ := r
  exact ⟨o, es, ep, t, h1, h2, h3, h4, h5, h6, h7, h8, h9⟩
end
end Nv
-- N67
namespace Nv
open PySem PySem.Spec PyProof.Rows L2
section
variable {P : Program} {w : World} {K : Type} [DecidableEq K] {knd : KeyKind P w K} {A : Around} {E : Value → Shared → Prop} {s : Shared} {a r : Addr}
end
end Nv
-- N68
namespace Nv
open PySem PySem.Spec PyProof.Rows L2
section
variable {P : Program} {w : World} {K : Type} [DecidableEq K] {knd : KeyKind P w K} {A : Around} {E : Value → Shared → Prop} {s : Shared}
end
end Nv
-- N69
namespace Nv
open PySem PySem.Spec PyProof.Rows L2
open Evl (Ex)
section
variable {X : Cx}
end
section
variable {X : Cx} {c : Cf}
end
end Nv
-- N70
namespace Nv
open PySem PySem.Spec PyProof.Rows L2
open Evl (Ex)
section
variable {Γ : Ev} {dd : List D} {f : Ev → Rs (List OV)} {os : List OV}
end
end Nv
-- N71
namespace Nv
open PySem PySem.Spec PyProof.Rows L2
open Evl (Ex)
end Nv
-- N72
namespace Nv
open PySem PySem.Spec PyProof.Rows L2
open Evl (Ex)
end Nv
-- N75
namespace Nv
open PySem PySem.Spec PyProof.Rows L2
open He (ga ma frG asG)
abbrev Fr := PySem.W.Frag
def fdAt (K : Fr) (f : Addr) : Option FuncData := match K.lookup f with
  | some ⟨_, _, .func fd, _⟩ => some fd
  | _ => none
abbrev FV : Type := Option (Str × Str × Arguments × FuncBody × Scope × Addr × Addr)
def fvAt (K : Fr) (f : Addr) : FV := match fdAt K f with
  | some fd => some (fd.name, fd.qualname, fd.params, fd.body, fd.scope, fd.globals, fd.builtins)
  | none => none
def fvOf (name qual : Str) (st : Stmt) : FV := some (name, qual, defArgs st, .stmts (defBody st), defScope st, mainGlobals, builtinsNs)
theorem fd_lk {K : Fr} {f : Addr} {fd : FuncData} (h : fdAt K f = some fd) : ∃ oc od sl, K.lookup f = some ⟨oc, od, .func fd, sl⟩ := by
  unfold fdAt at h
  split at h
  · rename_i a b c d e
    cases h
    exact ⟨_, _, _, e⟩
  · cases h
theorem fv_ok {K : Fr} {f : Addr} {name qual : Str} {st : Stmt} (h : fvAt K f = fvOf name qual st) :
    ∃ cl dV kV doc pm an cdv ct, fdAt K f = some (PySem.W.fnX name qual (defArgs st) (defBody st) (defScope st) cl dV kV doc pm an cdv ct) := by
  unfold fvAt fvOf at h
  split at h
  · rename_i fd e
    obtain ⟨n1, n2, n3, n4, n5, n6, n7, n8, n9, n10, n11, n12, n13, n14, n15⟩ := fd
    simp only [Option.some.injEq, Prod.mk.injEq] at h
    obtain ⟨h1, h2, h3, h4, h5, h6, h7⟩ := h
    subst h1 h2 h3 h4 h5 h6 h7
    exact ⟨n7, n8, n9, n10, n11, n12, n13, n14, e⟩
  · cases h
/-- a def without defaults -/
def fnB (K : Fr) (f : Addr) (q : Str) : Bool := match fdAt K f with
  | some fd => (match fd.closure, fd.defaults with
    | [], .none => PySem.W.codeIn K fd.code q
    | _, _ => false)
  | none => false
theorem fn_get {K : Fr} {f : Addr} {name qual : Str} {st : Stmt} (h : fvAt K f = fvOf name qual st) (b : fnB K f qual = true) :
    ∃ (oc : Value) (od : Option Addr) (sl : Array (Option Value)) (kV dc pm : Value) (an : Option Addr) (cd ct : Value), K.lookup f = some ⟨oc, od, .func (PySem.W.fnOf name qual (defArgs st) (defBody st) (defScope st) .none kV dc pm an cd ct), sl⟩ ∧ PySem.W.codeIn K cd qual = true := by
  obtain ⟨cl, dV, kV, doc, pm, an, cdv, ct, e⟩ := fv_ok h
  obtain ⟨oc, od, sl, lk⟩ := fd_lk e
  unfold fnB at b
  rw [e] at b
  dsimp only at b
  split at b
  · exact ⟨oc, od, sl, kV, doc, pm, an, cdv, ct, lk, b⟩
  · cases b
def cdAt (K : Fr) (f : Addr) : Addr := match fdAt K f with
  | some fd => (match fd.code with
    | .ref a => a
    | _ => 0)
  | none => 0
def fnE (K : Fr) (f : Addr) (C : Addr) (q file : Str) : Bool := match fdAt K f with
  | some fd => (match fd.closure, fd.defaults, fd.code with
    | [(n, cc)], .none, .ref c => decide (n = "__class__") && PySem.W.codeIn K (.ref c) q && (match K.lookup cc, K.lookup c with
      | some ⟨_, _, .cell (some (.ref D)), _⟩, some ⟨_, _, .fields vs, _⟩ => decide (D = C) && (match (vs[2]? : Option Value) with
        | some (.str g _) => file == g
        | _ => false)
      | _, _ => false)
    | _, _, _ => false)
  | none => false
theorem fn_getE {K : Fr} {f C : Addr} {name qual file : Str} {st : Stmt} (h : fvAt K f = fvOf name qual st) (b : fnE K f C qual file = true) :
    ∃ (oc : Value) (od : Option Addr) (sl : Array (Option Value)) (cc c : Addr) (kV dc pm : Value) (an : Option Addr) (ct : Value),
      K.lookup f = some ⟨oc, od, .func (PySem.W.fnX name qual (defArgs st) (defBody st) (defScope st) [("__class__", cc)] .none kV dc pm an (.ref c) ct), sl⟩ ∧ PySem.W.codeIn K (.ref c) qual = true ∧
      (∃ (x : Value) (y : Option Addr) (z : Array (Option Value)), K.lookup cc = some ⟨x, y, .cell (some (.ref C)), z⟩) ∧
      ∃ (cl : Value) (cdd : Option Addr) (vs : Array Value) (ccs : Array (Option Value)), K.lookup c = some ⟨cl, cdd, .fields vs, ccs⟩ ∧ ∃ g tf, vs[2]? = some (.str g tf) ∧ (file == g) = true := by
  obtain ⟨cl, dV, kV, doc, pm, an, cdv, ct, e⟩ := fv_ok h
  obtain ⟨oc, od, sl, lk⟩ := fd_lk e
  unfold fnE at b
  rw [e] at b
  dsimp only at b
  split at b
  · rename_i n cc c
    rw [Bool.and_eq_true, Bool.and_eq_true] at b
    obtain ⟨⟨b1, b2⟩, b3⟩ := b
    have b1 := of_decide_eq_true b1
    subst b1
    split at b3
    · rename_i x1 x2 D x3 y1 y2 vs y3 hcc hc
      rw [Bool.and_eq_true] at b3
      obtain ⟨b4, b5⟩ := b3
      have b4 := of_decide_eq_true b4
      subst b4
      split at b5
      · rename_i g t hg
        refine ⟨oc, od, sl, cc, c, kV, doc, pm, an, ct, ?_, b2, ⟨_, _, _, hcc⟩, _, _, _, _, hc, g, t, hg, b5⟩
        exact lk
      · cases b5
    · cases b3
  · cases b
/-- an error's class -/
def exB (K : Fr) (C : Addr) : Bool := match K.lookup C with
  | some ⟨.type "type", _, .cls cd, sl⟩ => (match cd.mro, sl.toList with
    | .ref C' :: bm, [_, _, _, _, some (.builtin n), _] => C' == C && n == "ValueError.__new__" && !cd.hasDel && cd.hasDict && PySem.HandSPX.refsVE bm
    | _, _ => false)
  | _ => false
theorem ex_get {K : Fr} {C : Addr} (q : exB K C = true) : ∃ nm qn N bs bm sn sub ab col dd k0 k1 k2 k3 k5, K.lookup C = some (excClassObj nm qn C N bs bm true sn sub ab col dd k0 k1 k2 k3 k5 "ValueError.__new__") ∧ PySem.HandSPX.refsVE bm = true := by
  unfold exB at q
  split at q
  · rename_i dd cd sl ho
    split at q
    · rename_i C' bm k0 k1 k2 k3 n k5 hm hs
      simp only [Bool.and_eq_true, beq_iff_eq, Bool.not_eq_true'] at q
      obtain ⟨⟨⟨⟨rfl, rfl⟩, hdel⟩, hd⟩, ht⟩ := q
      obtain ⟨nm, bs, mro, ns, qn, hdct, sn, sub, ab, col, del⟩ := cd
      dsimp only at hm hdel hd
      subst hm hdel hd
      have hsl : sl = #[k0, k1, k2, k3, some (.builtin "ValueError.__new__"), k5] := by
        obtain ⟨l⟩ := sl
        simp only at hs
        rw [hs]
      subst hsl
      exact ⟨nm, qn, ns, bs, bm, sn, sub, ab, col, dd, k0, k1, k2, k3, k5, ho, ht⟩
    · cases q
  · cases q
def clB (K : Fr) (C : Addr) : Bool := (PySem.W.clsIn K C).isSome
theorem cl_get {K : Fr} {C : Addr} (q : clB K C = true) : ∃ cd, PySem.W.clsIn K C = some cd := Option.isSome_iff_exists.mp q
/-- a name of the module that stands for an int, a text -/
def intB (K : Fr) (x : Str) (i : Int) : Bool := match PySem.W.nsIn K mainGlobals x with
  | some (some (.int j _)) => decide (j = i)
  | _ => false
theorem int_get {K : Fr} {x : Str} {i : Int} (q : intB K x i = true) : ∃ tk, PySem.W.nsIn K mainGlobals x = some (some (.int i tk)) := by
  unfold intB at q
  split at q
  · rename_i j t e
    rw [of_decide_eq_true q] at e
    exact ⟨t, e⟩
  · cases q
def vrs (g : Addr → Option Obj) (a : Addr) : List Addr := match g a with
  | some ⟨_, _, .dict es _, _⟩ => es.toList.flatMap fun e => He.refV e.val
  | _ => []
def prt (g : Addr → Option Obj) (a : Addr) : List Addr := match g a with
  | some ⟨_, _, .func fd, _⟩ => He.refV fd.code ++ (He.refV fd.defaults ++ fd.closure.map (·.2))
  | some ⟨_, _, .cls cd, _⟩ => [cd.ns]
  | _ => []
/-- what the module's names reach -/
def asM (g : Addr → Option Obj) : List Addr :=
  (fun L1 : List Addr => (fun L2 : List Addr => (fun L3 : List Addr => mainGlobals :: cStatics :: (L1 ++ (L2 ++ (L3 ++ L3.flatMap (prt g))))) (L2.flatMap (vrs g))) (L1.flatMap (prt g))) (vrs g mainGlobals)
abbrev AlH : Type := Bool × List FV
theorem fact_at {l : List Bool} (h : l.all id = true) (i : Nat) {b : Bool} (e : l[i]? = some b) : b = true := List.all_eq_true.mp h b (List.mem_of_getElem? e)
theorem fn_at {l m : List FV} (h : l = m) (i : Nat) {a b : FV} (e1 : l[i]? = some a) (e2 : m[i]? = some b) : a = b := by
  rw [h, e2] at e1
  exact (Option.some.inj e1).symm
/-- the tables of code objects at the law's start: cs has code objects and their tables -/
structure TabS0 (K : Fr) (mg : Str → Option Value) (h : Heap) (cs : List (Addr × Addr)) : Prop where
  t : ∀ p ∈ cs, h.get? p.2 = some { cls := .none, data := .fields #[] }
  n : ∀ p ∈ cs, K.lookup p.2 = none
  c : ∀ p ∈ cs, PySem.W.CodeHd h p.1 p.2
  a : ∀ p ∈ tabsOf ⟨K, mg⟩, ∃ c, (c, p.1) ∈ cs
theorem TabS0.nil {K : Fr} {mg : Str → Option Value} {h : Heap} (e : tabsOf ⟨K, mg⟩ = []) : TabS0 K mg h [] :=
  ⟨fun p z => (List.not_mem_nil z).elim, fun p z => (List.not_mem_nil z).elim, fun p z => (List.not_mem_nil z).elim, fun p z => by rw [e] at z; cases z⟩
/-- the goal that head_any leaves -/
theorem end_ofE {l : PySem.W.OpenLaw} {q : Program} {loose : List Str} {XP : (Str → Option Value) → Heap → Prop} {YP : World → Heap → Prop} {d : DefRec} {lev : Nat} {f : List AV → FR}
    (ht : ∀ ns : List Int, ns.length ≤ 63 → ∃ outs, f [.dat (.fz (ns.map D.int))] = .ok (.dat (.bl true)) outs) (hn : l.most = some 63) (hdf : d.params.defaults = []) (hd : d.name = "law") (hlev : decide (lev < 30) = true)
    (F : ∀ (w : World) (mg : Str → Option Value) (fa : Addr) (h : Heap), YP w h → h.Ns mainGlobals mg → mg "law" = some (.ref fa) →
      ∃ (K : Fr) (cs : List (Addr × Addr)), K.In h ∧ TabS0 K mg h cs ∧ ∃ fd : FuncData, (∀ (s : Shared) (u : Value), BindsTo s fd ⟨[u], []⟩ [("script", u)]) ∧ ∀ base : Heap, K.In base → base.Ns mainGlobals mg → (∀ p ∈ cs, LamX.TabB base mg p.1 p.2) → FnOk l.prog w K mg base (L2.CX l.prog w) lev fa fd ["script"] (spD ⟨K, mg⟩ 1 f)) :
    PySem.W.WalkO q loose XP YP l.row.toRowW d [] (fun f vs => PySem.call f vs) := by
  have hl : lev < 30 := of_decide_eq_true hlev
  refine Att.attach_call hn hdf fun w s₀ s₁ mg mb fa o pm cd doc a vs ns G Y ho hd2 hcd hmg hobj hints hlen hg => ?_
  rw [hd] at hmg
  obtain ⟨K, cs, KX, T, fd, hb, hF⟩ := F w mg fa _ Y G.T.g hmg
  refine LamX.law_callTs (sp := spLaw K mg) (k := 30) (CX := L2.CX l.prog w) KX G.T.g G.T.b G.T.builtins G.T.nolimit hg T.t T.n T.c G.T.bmain hobj hints (Nat.le_trans hlen (by decide)) ⟨rfl, by decide, by decide⟩ (fun base x y z => ((hF base x y z).imp (law_imp ht)).mono (by omega)) hb (fun H hO hS => ⟨a, ns, rfl, hS, hlen, fun p hp => ?_, fun _ => rfl⟩) fun H e s' z => ?_
  · obtain ⟨c, hc⟩ := T.a p hp
    exact NdefX.TabN.nil (hO _ hc)
  · obtain ⟨_, _, _, _, _, _, _, _, _, _, _, _, z⟩ := z
    exact z
end Nv
-- N76
namespace L2
open PySem PySem.Spec PyProof.Rows
structure FnOkG (P : Program) (w : World) (K : PySem.W.Frag) (mg : Str → Option Value) (base : Heap) (CX : CXT) (k : Nat) (f : Addr) (fd : FuncData) (ps : List Str) (sp : Sp) : Prop where
  len : ∀ vs H Q E, sp vs H Q E → vs.length = ps.length
  run : ∀ (A : Around) (outer : List Env) (s : Shared) (H : Hp) (args : Args) (us : List Value) (vs : List V) (Q : VK) (E : XK), A.guards = some [] → Room k A → Env0 P w K mg base A outer s H → BindsTo s fd args (ps.zip us) → Vals vs us → sp vs H Q E →
    codeAny (model P w) A (.call (.ref f) args) (CR CX outer P w H s Q E) s
theorem FnOkG.mono {P : Program} {w : World} {K : PySem.W.Frag} {mg : Str → Option Value} {base : Heap} {CX : CXT} {j k : Nat} {f : Addr} {fd : FuncData} {ps : List Str} {sp : Sp} (F : FnOkG P w K mg base CX j f fd ps sp) (h : j ≤ k) :
    FnOkG P w K mg base CX k f fd ps sp := ⟨F.len, fun A outer s H args us vs Q E hg hr => F.run A outer s H args us vs Q E hg (hr.mono h)⟩
theorem FnOkG.imp {P : Program} {w : World} {K : PySem.W.Frag} {mg : Str → Option Value} {base : Heap} {CX : CXT} {k : Nat} {f : Addr} {fd : FuncData} {ps : List Str} {sp sp' : Sp} (F : FnOkG P w K mg base CX k f fd ps sp)
    (h : ∀ vs H Q E, sp' vs H Q E → sp vs H Q E) : FnOkG P w K mg base CX k f fd ps sp' :=
  ⟨fun vs H Q E q => F.len vs H Q E (h _ _ _ _ q), fun A outer s H args us vs Q E hg hr he hb hv hs => F.run A outer s H args us vs Q E hg hr he hb hv (h _ _ _ _ hs)⟩
section
variable {P : Program} {w : World} {K : PySem.W.Frag} {mg : Str → Option Value} {base : Heap}
end
end L2
namespace Nv
open PySem PySem.Spec PyProof.Rows L2
end Nv
-- N77
namespace Nv
open PySem PySem.Spec PyProof.Rows L2
open Evl (Ex)
section
variable {X : Cx} {pins : List (Addr × Obj)} {σ : L2.St} {H : Hp} {s : Shared} {M : Md}
end
section
variable {X : Cx} {c : Cf} {e : Expr} {es : List Expr} {p pos : Pos} {f : Ev → Rs (List OV)}
end
end Nv
-- N78
namespace L2
open PySem PySem.Spec PyProof.Rows
section
variable {M : Model} {A : Around} {E : Value → Shared → Prop} {s₀ s : Shared} {m cm : Str → Option Value} {env : Env}
end
section
variable {M : Model} {A : Around} {E : Value → Shared → Prop} {s : Shared}
end
section
variable {P : Program} {w : World} {K : PySem.W.Frag} {mg : Str → Option Value} {base : Heap}
end
end L2
namespace Nv
open PySem PySem.Spec PyProof.Rows L2
theorem PET.imp {X : Cx} {e : Expr} {t t' : TE} (h : PET X e t) (i : ∀ σ H Q, t' σ H Q → t σ H Q) : PET X e t' := fun pins s σ H Q h0 I q => h pins s σ H Q h0 I (i σ H Q q)
theorem PSsT.imp {X : Cx} {s : List Stmt} {t t' : TS} (h : PSsT X s t) (i : ∀ De σ H, t' De σ H → t De σ H) : PSsT X s t' := fun pins st σ H De h0 I q => h pins st σ H De h0 I (i De σ H q)
theorem PST.imp {X : Cx} {s : Stmt} {t t' : TS} (h : PST X s t) (i : ∀ De σ H, t' De σ H → t De σ H) : PST X s t' := fun pins st σ H De h0 I q => h pins st σ H De h0 I (i De σ H q)
section
variable {X : Cx} {c : Cf} {s : Stmt} {ss : List Stmt}
end
end Nv
-- N79
namespace Nv
open PySem PySem.Spec PyProof.Rows L2
open CwR
section
variable {X : Cx} {c : Cf} {o e b : Expr} {pos apos : Pos} {y z : Str} {j k : Nat} {c0 c1 : Pos}
end
end Nv
-- N80
namespace Nv
open PySem PySem.Spec PyProof.Rows L2
open Evl (Ex)
section
variable {c : Cf} {σ : L2.St} {F H : Hp} {Γ : Ev} {r : Rs AV} {Q : VK}
end
section
variable {X : Cx} {CX : CXT} {k : Nat} {f C : Addr} {fd : FuncData} {ps : List Str} {sp : Sp} {E : L2.St → XK} {a b e : Expr} {ta tb : TE} {t : TA} {pos p : Pos}
end
section
variable {X : Cx} {c : Cf} {cn x : Str} {k k' : Nat} {g : List AV → FR} {f : Ev → Rs (List OV)} {fa fb : Ev → Rs D} {a b e o : Expr} {es : List Expr} {p pos apos : Pos} {f1 f2 : Ev → Rs OV}
end
end Nv
-- N81
namespace Nv
open PySem PySem.Spec PyProof.Rows L2
open PySem.W (kun_draw kun_collect)
open Evl (Ex)
section
variable {prog : Program} {w : World} {A : Around} {E : Value → Shared → Prop} {s : Shared}
end
section
variable {X : Cx} {c : Cf} {e : Expr} {pos : Pos}
end
end Nv
-- N82
namespace Nv
open PySem PySem.Spec PyProof.Rows L2 ClX
open Evl (Ex)
section
variable {X : Cx} {CX : CXT} {k i : Nat} {f C g p : Addr} {mc : Value} {fd : FuncData} {ps : List Str} {sp : Sp} {E : L2.St → XK} {x m : Str} {e o : Expr} {es : List Expr} {ta : TE} {t : TA} {pos pp apos : Pos} {pl : Sem Bool}
end
section
variable {X : Cx} {c : Cf} {x m cn : Str} {p pos apos : Pos} {e o : Expr} {es : List Expr} {k k' n i : Nat} {g : List AV → FR} {f : Ev → Rs (List OV)} {fo : Ev → Rs OV}
end
end Nv
-- N83
namespace Nv
open PySem PySem.Spec PyProof.Rows L2
open Evl (Ex)
section
variable {M : Model} {A : Around} {E : Value → Shared → Prop} {s : Shared} {env : Env}
end
section
variable {X : Cx} {c : Cf} {elts : List Expr} {kk : Nat} {tpos p pos kpos cpos : Pos} {pins : List (Addr × Obj)} {σ : L2.St} {H : Hp} {s : Shared} {R : It → Hp → Prop} {G : Hp → Prop} {xs : List V} {tn : Nat → Heap → Prop} {o : Obj} {h' : Heap} {k0 : Int} {e : Expr} {ta : TA}
end
end Nv
-- N84
namespace Nv
open PySem PySem.Spec PyProof.Rows L2
section
variable {Γ : Ev} {cn n : Str} {g : List AV → FR} {fa : Ev → Rs D} {f : Ev → Rs (List OV)} {l : List (Str × D)} {xl : List (Str × D)} {z : Str} {i j k : Nat} {os : List OV} {x : D} {r : List D}
end
end Nv
-- N73
namespace Nv
open PySem PySem.Spec PyProof.Rows L2
open Evl (Ex)
open RZ
section
variable {X : Cx} {c : Cf}
end
section
variable {X : Cx} {c : Cf}
end
section
variable {Γ : Ev} {f : Ev → Rs (List OV)} {o p : OV} {l m : List D} {i : Nat}
end
end Nv
-- N74
namespace Nv
open PySem PySem.Spec PyProof.Rows L2
open Evl (Ex)
section
variable {X : Cx} {c : Cf}
end
section
variable {Γ : Ev} {fa fb : Ev → Rs D} {d e : D} {i j : Int}
end
end Nv
-- N86
namespace Nv
open PySem PySem.Spec PyProof.Rows L2
open Evl (Ex)
section
variable {P : Program} {w : World} {K : Type} [DecidableEq K] {knd : KeyKind P w K} {A : Around} {E : Value → Shared → Prop} {s : Shared}
end
end Nv
-- N87
namespace Nv
open PySem PySem.Spec PyProof.Rows L2
open Evl (Ex)
section
variable {X : Cx}
end
section
variable {X : Cx} {c : Cf}
end
end Nv
-- N88
namespace PySem
open Sem (wp)
namespace F
end F
section
variable {prog : Program} {w : World} {A : Around} {R : Result → Shared → Prop} {I : Addr} {fp wr : List Addr} {n : Nat} {St : Nat → Heap → Prop}
end
section
variable {prog : Program} {w : World} {A : Around} {E : Value → Shared → Prop} {s : Shared}
end
end PySem
-- N89
namespace Nv
open PySem PySem.Spec PyProof.Rows L2
open Evl (Ex)
section
variable {X : Cx}
end
section
variable {X : Cx} {c : Cf}
end
end Nv
-- N90
namespace Nv
open PySem PySem.Spec PyProof.Rows L2
open Evl (Ex)
/-- D holds new lists ps -/
structure Mats (M : Md) (F H : Hp) (A : Addr → Prop) (D : Addr) (ps : List (Addr × List Nv.D)) : Prop where
  nd : (ps.map (·.1)).Nodup
  at_ : H D = some (.lst (ps.map fun p => V.ref p.1))
  no : ∀ p ∈ ps, p.1 ≠ D ∧ F p.1 = none ∧ ¬ A p.1 ∧ ∃ zs, H p.1 = some (.lst zs) ∧ Reps M F p.2 zs
def MatA (A0 : Addr → Prop) (H0 : Hp) (ps : List (Addr × List Nv.D)) : Prop := ∀ p ∈ ps, A0 p.1 ∨ H0 p.1 = none
theorem Mats.ext {M : Md} {F H F' H' : Hp} {A A' : Addr → Prop} {D : Addr} {ps : List (Addr × List Nv.D)} (m : Mats M F H A D ps) (e : Ext A F H A' F' H') (hD : H' D = H D) : Mats M F' H' A' D ps :=
  ⟨m.nd, hD.trans m.at_, fun p hp => by
    obtain ⟨h1, h2, h3, zs, h4, h5⟩ := m.no p hp
    refine ⟨h1, e.fn _ _ h3 h4 h2 trivial, fun z => ?_, zs, e.hh _ _ h3 h4 trivial, h5.mono e.ff⟩
    rcases e.aa _ z with z | z
    · exact h3 z
    · rw [h4] at z; cases z⟩
def vrM (M : Md) : VRel (List (List D)) V := fun σ _ H Γ F' H' Γ' v ls => ∃ (D : Addr) (ps : List (Addr × List Nv.D)), v = .ref D ∧ ls = ps.map (·.2) ∧ F' D = none ∧ ¬ own σ Γ' D ∧ (own σ Γ D ∨ H D = none) ∧ Mats M F' H' (own σ Γ') D ps ∧ MatA (own σ Γ) H ps
section
variable {X : Cx} {c : Cf}
end
end Nv
-- N91
namespace Nv
open PySem PySem.Spec PyProof.Rows L2
open Evl (Ex)
theorem inv_ghost {X : Cx} {pins : List (Addr × Obj)} {σ σ' : List (Option V)} {H : Hp} {s : Shared} (I : Inv X pins σ H s) (hl : σ'.length = σ.length)
    (h : ∀ (i : Nat) (x : Str), X.N[i]? = some x → Vis X.env.scope x → σ'[i]? = σ[i]?) : Inv X pins σ' H s :=
  ⟨I.ok, I.os, I.bare, I.base, let ⟨m, hn, hl'⟩ := I.loc; ⟨m, hn, fun i x v e1 e2 e3 => hl' i x v e1 (by rw [← h i x e1 e3]; exact e2) e3⟩, I.cell, I.free, I.freeC, I.pin, I.hok, hl.trans I.len⟩
section
variable {M : Md} {σ0 τ : L2.St} {F H : Hp} {σ : L2.St} {Γ : Ev}
/-- the slots of later marks are forgotten -/
def dropK (K : Nat) : Slot → Slot
  | .own (some k) o => if K ≤ k then .un else .own (some k) o
  | g => g
/-- a slot is forgotten -/
theorem rel_forget (r : Rel M σ0 F H σ Γ) (i : Nat) : Rel M σ0 F H σ (Γ.set i .un) ∧ ∀ b, own σ (Γ.set i .un) b → own σ Γ b := by
  have get : ∀ {j : Nat} {t : Option Nat} {o : O}, (Γ.set i .un)[j]? = some (.own t o) → Γ[j]? = some (.own t o) := fun {j t o} h => by
    by_cases z : i = j
    · subst z
      by_cases hi : i < Γ.length
      · rw [List.getElem?_set_self hi] at h; cases h
      · rw [List.getElem?_eq_none (by rw [List.length_set]; omega)] at h; cases h
    · rw [List.getElem?_set_ne z] at h
      exact h
  refine ⟨⟨r.sub, by rw [List.length_set]; exact r.len, fun j s g h1 h2 => ?_, fun j k t o t' o' a h1 h2 h3 h4 => r.sep j k t o t' o' a (get h1) (get h2) h3 h4, r.tab⟩, fun b ⟨j, t, o, h1, h2⟩ => ⟨j, t, o, get h1, h2⟩⟩
  by_cases z : i = j
  · subst z
    by_cases hi : i < Γ.length
    · rw [List.getElem?_set_self hi] at h2; cases h2; trivial
    · rw [List.getElem?_eq_none (by rw [List.length_set]; omega)] at h2; cases h2
  · rw [List.getElem?_set_ne z] at h2
    exact r.slot j s g h1 h2
end
end Nv
-- N92
namespace Nv
open PySem PySem.Spec PyProof.Rows L2
open Evl (Ex)
section
variable {M : Md} {σ0 : L2.St} {F H : Hp}
end
abbrev Cf.more (c : Cf) (bs : List Addr) : Cf := ⟨c.M, c.σ0 ++ bs.map (fun b => some (V.ref b)), c.W⟩
end Nv
-- N93
namespace Nv
open PySem PySem.Spec PyProof.Rows L2
open Evl (Ex)
section
variable {X : Cx} {c : Cf} {e o k v : Expr} {pos pos' : Pos}
end
end Nv
-- N94
namespace Nv
open PySem PySem.Spec PyProof.Rows L2
open Evl (Ex)
section
variable {X : Cx} {c : Cf} {e : Expr}
end
end Nv
-- N95
namespace Nv
open PySem PySem.Spec PyProof.Rows L2
open Evl (Ex)
/-- as vrM, the start told by itself -/
def MatR (M : Md) (A0 : Addr → Prop) (H0 F H : Hp) (A : Addr → Prop) (v : V) (ls : List (List D)) : Prop := ∃ (D : Addr) (ps : List (Addr × List Nv.D)), v = .ref D ∧ ls = ps.map (·.2) ∧ F D = none ∧ ¬ A D ∧ (A0 D ∨ H0 D = none) ∧ Mats M F H A D ps ∧ MatA A0 H0 ps
theorem MatR.keep {M : Md} {A0 A A' : Addr → Prop} {H0 F H F' H' : Hp} {v : V} {ls : List (List D)} (h : MatR M A0 H0 F H A v ls) (e : Ext A F H A' F' H') : MatR M A0 H0 F' H' A' v ls := by
  obtain ⟨D, ps, h1, h2, h3, h4, h5, h6, h7⟩ := h
  have hD := e.hh D _ h4 h6.at_ trivial
  refine ⟨D, ps, h1, h2, e.fn D _ h4 h6.at_ h3 trivial, fun z => ?_, h5, h6.ext e (hD.trans h6.at_.symm), h7⟩
  rcases e.aa D z with z | z
  · exact h4 z
  · rw [h6.at_] at z; cases z
end Nv
namespace Nv
open PySem PySem.Spec PyProof.Rows L2
end Nv
namespace Nv
open PySem PySem.Spec PyProof.Rows L2
end Nv
namespace Nv
open PySem PySem.Spec PyProof.Rows L2
end Nv
-- N96
namespace Nv
open PySem PySem.Spec PyProof.Rows L2
section
variable {Γ : Ev} {i j r g K K0 n : Nat} {bs : List Addr} {fb fk : Ev → Rs OV} {fv fo : Ev → Rs D} {f2 : Ev → Rs AV} {cr : Ev → Rs (List (List D))} {f : Nat → List Addr → Ev → Out} {d : D}
end
end Nv
-- N97
namespace Nv
open PySem PySem.Spec PyProof.Rows L2
section
variable {Γ Γ1 : Ev} {vs : List Nat} {src : Ev → Rs (List D × List Nat)} {g : TgF} {t : Ev → Rs Bool} {f : Ev → Rs AV} {p : List D × List Nat}
end
/-- nothing own that is marked -/
def DU (G : Ev) : Prop := ∀ g ∈ G, ∀ k o, g ≠ .own (some k) o
theorem DU.drop {K : Nat} {G : Ev} (h : DU G) : G.map (dropK K) = G := by
  have e : ∀ g ∈ G, dropK K g = g := fun g hg => by
    cases g with
    | un => rfl
    | dat d => rfl
    | own t o =>
      cases t with
      | none => rfl
      | some k => exact absurd rfl (h _ hg k o)
  rw [List.map_congr_left e, List.map_id']
end Nv
-- N85
namespace Nv
open PySem PySem.Spec PyProof.Rows L2
end Nv
-- N98
namespace Nv
open PySem PySem.Spec PyProof.Rows L2
open Evl (Ex)
theorem spD_tS {M : Md} {N : List Str} {n : Nat} {g : Ev → Out} {vs : List V} {H : Hp} {Q : VK} {E : XK} (h : spD M n (runF N.length g) vs H Q E) :
    tS ⟨M, L2.start N vs, fun cls d _ H => E cls d H⟩ g { nx := fun _ H' => Q .non H', rt := Q } (L2.start N vs) H := by
  obtain ⟨hlen, F, args, r0, q⟩ := h
  have l0 := r0.len
  rw [tagA_len, List.length_map] at l0
  have es : L2.start N vs = vs.map some ++ List.replicate (N.length - args.length) none := by unfold L2.start; rw [l0]
  have r1 : Rel M (L2.start N vs) F H (L2.start N vs) (tagA 0 args ++ List.replicate (N.length - args.length) .un) := by rw [es]; exact r0.pad _
  have eo : ∀ b, own (L2.start N vs) (tagA 0 args ++ List.replicate (N.length - args.length) .un) b ↔ own (vs.map some) (tagA 0 args) b := fun b => by
    rw [es]; exact own_pad (by rw [List.length_map, tagA_len, l0])
  refine ⟨F, _, r1, ?_⟩
  unfold runF at q
  have back : ∀ {outs : Ev} {av : AV} {Γ' : Ev} {F' H' : Hp} {σ' : L2.St} {v : V}, outA 0 args Γ' = some outs → Rel M (L2.start N vs) F' H' σ' Γ' → Ext (own (L2.start N vs) (tagA 0 args ++ List.replicate (N.length - args.length) .un)) F H (own σ' Γ') F' H' →
      AVR M (own (L2.start N vs) (tagA 0 args ++ List.replicate (N.length - args.length) .un)) H F' H' (own σ' Γ') v av →
      Rel M (vs.map some) F' H' (vs.map some) outs ∧ Ext (own (vs.map some) (tagA 0 args)) F H (own (vs.map some) outs) F' H' ∧ AVR M (own (vs.map some) (tagA 0 args)) H F' H' (own (vs.map some) outs) v av := fun {outs av Γ' F' H' σ' v} h1 r e a => by
    obtain ⟨x1, x2⟩ := rel_out r0 h1 r e.ff
    refine ⟨x1, (e.congA eo).subA x2, ?_⟩
    cases av with
    | dat d => exact a
    | own o =>
      obtain ⟨p, y1, y2, y3, y4, y5⟩ := a
      exact ⟨p, y1, y2, fun z => y3 (x2 p z), y4, y5.imp (eo p).mp id⟩
  cases hb : g (tagA 0 args ++ List.replicate (N.length - args.length) .un) with
  | nx Γ =>
    rw [hb] at q
    dsimp only at q
    cases hO : outA 0 args Γ with
    | none => rw [hO] at q; exact q.elim
    | some outs =>
      rw [hO] at q
      intro σ' F' H' r e
      obtain ⟨z1, z2, z3⟩ := back (av := .dat .non) (v := .non) hO r e (show Rep _ _ _ _ from rep_non.mpr rfl)
      exact q F' H' .non z1 z2 z3
  | rt av Γ =>
    rw [hb] at q
    dsimp only at q
    cases hO : outA 0 args Γ with
    | none => rw [hO] at q; exact q.elim
    | some outs =>
      rw [hO] at q
      intro σ' F' H' v r e a
      obtain ⟨z1, z2, z3⟩ := back hO r e a
      exact q F' H' v z1 z2 z3
  | ex n l Γ =>
    rw [hb] at q
    dsimp only at q
    cases hO : outA 0 args Γ with
    | none => rw [hO] at q; exact q.elim
    | some outs =>
      rw [hO] at q
      intro σ' F' H' C dx r e m x
      obtain ⟨z1, z2, z3⟩ := back (av := .dat .non) (v := .non) hO r e (show Rep _ _ _ _ from rep_non.mpr rfl)
      exact q F' H' C dx z1 z2 m x
  | bk Γ => rw [hb] at q; exact q.elim
  | ct Γ => rw [hb] at q; exact q.elim
  | bad => rw [hb] at q; exact q.elim
/-- an expression's promise: as a body that returns it -/
theorem startF_eq {N : List Str} {vs ws : List V} : NdefX.startF N vs (ws.map some) = L2.start N (vs ++ ws) := by
  unfold NdefX.startF L2.start
  rw [List.map_append, List.append_assoc, List.length_append, List.length_map, Nat.sub_sub]
structure FnV (P : Program) (w : World) (K : PySem.W.Frag) (mg : Str → Option Value) (base : Heap) (k : Nat) (f : Addr) (F : NdefX.NF) (b : Option Expr) (fr : List Str) (ws : List V) (sp : Sp) : Prop where
  run : ∀ (A : Around) (outer : List Env) (s : Shared) (H : Hp) (us : List Value) (vs : List V) (Q : VK) (E : XK), Room k A → Env0 P w K mg base A outer s H → H f = some (fnQ f F b) → H F.c = some (LamX.CodeO F.c F.qual) →
    NdefX.CellsAt F.cl fr (ws.map some) s.heap H → Vals vs us → sp vs H Q E → codeAny (model P w) A (.call (.ref f) ⟨us, []⟩) (CR (L2.CX P w) outer P w H s Q E) s
section
variable {P : Program} {w : World} {K : PySem.W.Frag} {mg : Str → Option Value} {base : Heap} {N ps fr : List Str} {F : NdefX.NF} {f : Addr} {k j : Nat} {ws : List V} {d : Ev → Out}
theorem FnV.mono {b : Option Expr} {sp : Sp} (o : FnV P w K mg base j f F b fr ws sp) (h : j ≤ k) : FnV P w K mg base k f F b fr ws sp := ⟨fun A outer s H us vs Q E hr => o.run A outer s H us vs Q E (hr.mono h)⟩
/-- a def within a def -/
theorem fnv_def (S : NdefX.NScope N ps fr F.scope) (hb : ∀ (doc pm ctv : Value) (us : List Value), us.length = ps.length → bindArgs (F.fd doc pm ctv) ⟨us, []⟩ = pure (ps.zip us)) (hw : ws.length = fr.length)
    (hbody : ∀ (A : Around) (outer : List Env) (s : Shared) (H : Hp) (vs : List V) (E : XK), Room k (A.deeper (NdefX.envF F f s.heap.objs.size)) → DSs (NdefX.ncx (L2.CX P w) P w K mg base N F f A outer s H E) ⟨⟨K, mg⟩, L2.start N (vs ++ ws), fun cls d _ H => E cls d H⟩ F.body d) :
    FnV P w K mg base (k + 1) f F none fr ws (fun vs H Q E => spD ⟨K, mg⟩ (ps.length + fr.length) (runF N.length d) (vs ++ ws) H Q E) := by
  have o := NdefX.nok_of (CX := L2.CX P w) (P := P) (w := w) (K := K) (mg := mg) (base := base) (f := f) (k := k) (sp := fun xs vs H Q E => xs = ws.map some ∧ spD ⟨K, mg⟩ (ps.length + fr.length) (runF N.length d) (vs ++ ws) H Q E) S hb (fun xs vs H Q E h => by
    have := h.2.1
    rw [List.length_append] at this
    omega) (fun A outer s H vs xs Q E hr hf hc hl h => by
    obtain ⟨rfl, h⟩ := h
    refine ⟨_, hbody A outer s H vs E hr, ?_⟩
    rw [startF_eq]
    exact spD_tS h)
  exact ⟨fun A outer s H us vs Q E hr e0 h1 h2 h3 h4 h5 => o.run A outer s H us vs _ Q E hr e0 h1 h2 h3 h4 ⟨rfl, h5⟩⟩
/-- a lambda -/
theorem fnv_lam {b : Expr} {fe : Ev → Rs AV} (hn : F.name = "<lambda>") (S : NdefX.NScope N ps fr F.scope) (hb : ∀ (pm ctv : Value) (us : List Value), us.length = ps.length → bindArgs (PySem.W.kla_fn F.name F.qual F.params b F.scope F.cl pm (.ref F.c) ctv) ⟨us, []⟩ = pure (ps.zip us)) (hw : ws.length = fr.length)
    (hbody : ∀ (A : Around) (outer : List Env) (s : Shared) (H : Hp) (vs : List V) (E : XK), Room k (A.deeper (NdefX.envF F f s.heap.objs.size)) → DO (NdefX.ncx (L2.CX P w) P w K mg base N F f A outer s H E) ⟨⟨K, mg⟩, L2.start N (vs ++ ws), fun cls d _ H => E cls d H⟩ b fe) :
    FnV P w K mg base (k + 1) f F (some b) fr ws (fun vs H Q E => spD ⟨K, mg⟩ (ps.length + fr.length) (runF N.length (retS fe)) (vs ++ ws) H Q E) := by
  refine ⟨fun A outer s H us vs Q E hr e0 hf hc C r hsp => ?_⟩
  have hl : vs.length = ps.length := by
    have := hsp.1
    rw [List.length_append] at this
    omega
  have lim : s.heap.NoLimit := e0.mod.nolimit.keeps fun b o e => (e0.bs b o e).1
  obtain ⟨⟨pm, ctv, ho⟩, _, _⟩ := e0.hok f _ hf
  refine PySem.W.kla_callFunE hr.depth ho rfl S.co S.gen rfl (NdefX.codeO_at e0.hok hc) ?_
  rw [hb pm ctv us (by rw [← r.length]; exact hl)]
  refine wpAny_pure (wpAny_newFunctionEnv S.nocell (fun ⟨n, _⟩ hy => S.par n (List.of_mem_zip hy).1) (fun h1 hns hsb => ⟨lim.fresh _ hsb, ?_⟩) S.kind)
  have kp : ∀ b o, s.heap.get? b = some o → h1.get? b = some o := fun b o e => hsb.extBut b o (Nat.ne_of_lt (Heap.lt_size e)) (Heap.get?_push_of_some _ e)
  have I : Inv (NdefX.ncx (L2.CX P w) P w K mg base N F f A outer s H E) [] (NdefX.startF N vs (ws.map some)) H { s with heap := h1, toks := s.toks + (ps.zip us).length } := NdefX.inv_startN S hr.hd e0 hl r C hns kp
  rw [startF_eq] at I
  have ht := spD_tS hsp
  have tq : tR ⟨⟨K, mg⟩, L2.start N (vs ++ ws), fun cls d _ H => E cls d H⟩ (vrO ⟨K, mg⟩) fe (L2.start N (vs ++ ws)) H Q := by
    obtain ⟨F1, Γ1, r1, q1⟩ := ht
    refine ⟨F1, Γ1, r1, ?_⟩
    refine (PoS.out (R := vrO (⟨K, mg⟩ : Md)) q1).imp fun v H1 ⟨F2, Γ2, av, r2, e2, a2, q2⟩ => ?_
    exact q2 (L2.start N (vs ++ ws)) F2 H1 v r2 e2 a2
  refine PySem.W.kla_codeExpr (wpAny_mono ((hbody A outer s H vs E (hr.deeper _)).run [] _ _ H Q I tq) (fun u s' hq => ?_) fun e s' hq => hq)
  obtain ⟨v, H', J, rv, q⟩ := hq
  exact ⟨v, H', J.os, J.bare, J.base, J.hok, rv, q⟩
end
end Nv
-- N99
namespace Nv
open PySem PySem.Spec PyProof.Rows L2
open Evl (Ex)
/-- a table that tells one code object more -/
theorem tabs_more {T : List NdefX.NTab} {H : Hp} {P c' : Addr} {nm : Nat → Nat → Str} {ps : Array Value} {pos : Pos} {q : Str} (t : NdefX.TabsN T H) (hP : H P = some (.tbl ps)) (ok : TriplesOk ps.toList) (hn : nm pos.line pos.col = q) (hu : ∀ p ∈ T, p.1 = P → p.2 = nm) (nC : H c' = none) :
    NdefX.TabsN T (upd (upd H P (.tbl (ps ++ #[rawInt pos.line, rawInt pos.col, .ref c']))) c' (LamX.CodeO c' q)) := by
  intro p hp
  obtain ⟨xs, k1, k2, k3⟩ := t p hp
  have stay : ∀ {b : Addr} {u : HO}, H b = some u → b ≠ P → upd (upd H P (.tbl (ps ++ #[rawInt pos.line, rawInt pos.col, .ref c']))) c' (LamX.CodeO c' q) b = some u := fun {b u} h n => by
    rw [upd_ne (ne_of_none h nC), upd_ne n]
    exact h
  have code : ∀ {b : Addr} {z : Str}, H b = some (LamX.CodeO b z) → b ≠ P := fun {b z} h e => by
    rw [e, hP] at h
    cases h
  by_cases e : p.1 = P
  · have en := hu p hp e
    rw [e, hP] at k1
    cases k1
    refine ⟨ps ++ #[rawInt pos.line, rawInt pos.col, .ref c'], ?_, ?_, fun p2 cv h2 => ?_⟩
    · rw [e, upd_ne (ne_of_none hP nC)]
      exact upd_same
    · rw [show (ps ++ #[rawInt pos.line, rawInt pos.col, .ref c']).toList = ps.toList ++ [rawInt pos.line, rawInt pos.col, .ref c'] by simp]
      exact PySem.TriplesOk_snoc _ _ _ _ ok
    · rw [show (ps ++ #[rawInt pos.line, rawInt pos.col, .ref c']).toList = ps.toList ++ [rawInt pos.line, rawInt pos.col, .ref c'] by simp] at h2
      rcases NdefX.among_app2 _ ok h2 with y | ⟨y, y1, y2⟩
      · obtain ⟨c0, z1, z2⟩ := k3 p2 cv y
        exact ⟨c0, z1, stay z2 (code z2)⟩
      · subst y
        refine ⟨c', rfl, ?_⟩
        rw [en, ← y1, ← y2, hn]
        exact upd_same
  · refine ⟨xs, stay k1 e, k2, fun p2 cv h2 => ?_⟩
    obtain ⟨c0, z1, z2⟩ := k3 p2 cv h2
    exact ⟨c0, z1, stay z2 (code z2)⟩
/-- the words of a lambda -/
abbrev lamF (X : Cx) (params : Arguments) (scope : Scope) (c' : Addr) : NdefX.NF := ⟨"<lambda>", X.env.qual ++ "<lambda>", params, [], scope, cloFrom X.env.cells scope.names [], c'⟩
section
variable {X : Cx} {pins : List (Addr × Obj)} {σ : L2.St} {H : Hp} {s : Shared}
theorem inv_lam {Fn : NdefX.NF} {body : Expr} {pm ctv : Value} {t' : Nat} (I : Inv X pins σ H s) :
    Inv X pins σ (upd H s.heap.objs.size (LamO s.heap.objs.size Fn body)) { s with heap := s.heap.push (PySem.W.kla_obj Fn.name Fn.qual Fn.params body Fn.scope Fn.cl pm Fn.c ctv), toks := t' } := by
  have at_ : (s.heap.push (PySem.W.kla_obj Fn.name Fn.qual Fn.params body Fn.scope Fn.cl pm Fn.c ctv)).get? s.heap.objs.size = some (PySem.W.kla_obj Fn.name Fn.qual Fn.params body Fn.scope Fn.cl pm Fn.c ctv) := Heap.get?_push_size _ rfl
  refine I.laid (fun b u e => Heap.get?_push_of_some _ e) (Nat.le_refl _) ⟨⟨pm, ctv, at_⟩, ⟨_, at_⟩, fun h1 h2 hp st => ?_⟩
  obtain ⟨pm', ctv', z⟩ := hp
  exact ⟨pm', ctv', st _ z⟩
theorem lam_madeN {T : List NdefX.NTab} {nm : Nat → Nat → Str} {c P : Addr} {params : Arguments} {body : Expr} {scope : Scope} {pos : Pos} {E Q : Value → Shared → Prop} (I : Inv X pins σ H s) (tb : LamX.TabB X.base X.mg c P) (ec : X.env.code = .ref c) (im : (P, nm) ∈ T)
    (en : nm pos.line pos.col = X.env.qual ++ "<lambda>") (hu : ∀ p ∈ T, p.1 = P → p.2 = nm) (t : NdefX.TabsN T H) (ed : defaultsOf params X.env = ([], [])) (ef : ∀ y ∈ scope.names, y.2 = .free → ∃ c, X.env.cells.lookup y.1 = some c)
    (h : ∀ (f c' : Addr) (H1 : Hp) (s' : Shared), Inv X pins σ H1 s' → LamX.ExtN H H1 → (∀ b, H1 b = none → H b = none) → NdefX.TabsN T H1 → H f = none → H1 f = some (LamO f (lamF X params scope c') body) → H1 c' = some (LamX.CodeO c' (X.env.qual ++ "<lambda>")) → Q (.ref f) s') :
    wpAny (model X.prog X.w) X.A (eval (.Lambda params body scope pos) X.env) Q E s := by
  obtain ⟨ps, hP, ok, told⟩ := (show NdefX.TabN H P nm from t _ im)
  have oP : s.heap.get? P = some { cls := .none, data := .fields ps } := I.hok P _ hP
  refine PySem.W.kla_eval ed ?_
  cases fd : codeAmong pos ps.toList with
  | some cv =>
    obtain ⟨c', e1, e2⟩ := told pos cv fd
    subst e1
    rw [en] at e2
    refine PySem.W.kla_makeFunctionHit (mg := X.mg) (c := c) (P := P) (ps := ps) (closure_ok ef) I.ok.glob (I.mod.glob.keeps I.bk) ec (tb.code.keeps I.bk) oP ok fd (tb.bm.keeps I.bk) fun ctv h' tk more big => ?_
    have J : Inv X pins σ H { s with heap := h', toks := tk } := I.kept more
    have new : H h'.objs.size = none := J.hok.fresh (Nat.le_refl _)
    refine h h'.objs.size c' _ _ (inv_lam (Fn := lamF X params scope c') J) (fun b o e _ => by rw [upd_ne (ne_of_none e new)]; exact e) (fun b e => NdefX.upd_none e) (t.ext fun b o e => by rw [upd_ne (ne_of_none e new)]; exact e) new upd_same ?_
    rw [upd_ne (ne_of_none e2 new)]
    exact e2
  | none =>
    refine PySem.W.kla_makeFunction (mg := X.mg) (c := c) (P := P) (ps := ps) (closure_ok ef) I.ok.glob (I.mod.glob.keeps I.bk) ec (tb.code.keeps I.bk) oP ok fd tb.gP (tb.bm.keeps I.bk) fun c' ctv h' tk more big lt rc at_ => ?_
    obtain ⟨c2, oc, vs, tq, z1, z2, z3, z4⟩ := rc
    cases z1
    have nC : H c' = none := I.hok.fresh big
    have J : Inv X pins σ (upd (upd H P (.tbl (ps ++ #[rawInt pos.line, rawInt pos.col, .ref c']))) c' (LamX.CodeO c' (X.env.qual ++ "<lambda>"))) { s with heap := h', toks := tk } :=
      LamX.inv_table I hP (fun b o n e => more b o n e) at_ big ⟨oc, vs, tq, z2, z3, z4⟩
    have new := J.hok.fresh (Nat.le_refl _)
    have old : H h'.objs.size = none := I.hok.fresh (Nat.le_trans big (Nat.le_of_lt lt))
    refine h h'.objs.size c' _ _ (inv_lam (Fn := lamF X params scope c') J) (fun b o e n => ?_) (fun b e => NdefX.upd_none (NdefX.upd_none (NdefX.upd_none e))) ((tabs_more t hP ok en hu nC).ext fun b o e => by rw [upd_ne (ne_of_none e new)]; exact e) old upd_same ?_
    · rw [upd_ne (ne_of_none e old), upd_ne (ne_of_none e nC), upd_ne fun z => n ps (by rw [z, hP] at e; exact (Option.some.inj e).symm)]
      exact e
    · rw [upd_ne (Nat.ne_of_lt lt)]
      exact upd_same
/-- the reading of a lambda -/
def tLamN (T : List NdefX.NTab) (mk : Addr → NdefX.NF) (body : Expr) : TE := fun σ H Q => NdefX.TabsN T H ∧ ∀ (f c' : Addr) (H1 : Hp), LamX.ExtN H H1 → (∀ b, H1 b = none → H b = none) → NdefX.TabsN T H1 → H f = none → H1 f = some (LamO f (mk c') body) → H1 c' = some (LamX.CodeO c' (mk c').qual) → Q (.ref f) H1
theorem pe_lamN {T : List NdefX.NTab} {nm : Nat → Nat → Str} {c P : Addr} {params : Arguments} {body : Expr} {scope : Scope} {pos : Pos} (tb : LamX.TabB X.base X.mg c P) (ec : X.env.code = .ref c) (im : (P, nm) ∈ T)
    (en : nm pos.line pos.col = X.env.qual ++ "<lambda>") (hu : ∀ p ∈ T, p.1 = P → p.2 = nm) (ed : defaultsOf params X.env = ([], [])) (ef : ∀ y ∈ scope.names, y.2 = .free → X.env.scope.names.lookup y.1 = some .cell ∨ X.env.scope.names.lookup y.1 = some .free) :
    PE X (.Lambda params body scope pos) (tLamN T (lamF X params scope) body) := by
  refine ⟨fun pins s σ H Q I ⟨t, h⟩ => ?_⟩
  refine lam_madeN I tb ec im en hu t ed (fun y hy e => (ef y hy e).elim (fun z => I.ok.has _ (.inl z)) fun z => I.ok.has _ (.inr z)) fun f c' H1 s' J eN hs t1 f0 f1 c1 => ?_
  exact ⟨.ref f, H1, J, rfl, h f c' H1 eN hs t1 f0 f1 c1⟩
end
theorem rel_fn {M : Md} {σ0 : L2.St} {F H H1 : Hp} {σ : L2.St} {Γ : Ev} {f : Addr} {Fn : NdefX.NF} {b : Option Expr} (r : Rel M σ0 F H σ Γ) (eN : LamX.ExtN H H1) (hs : ∀ b, H1 b = none → H b = none) (t1 : NdefX.TabsN theTabs H1) (f0 : H f = none) (f1 : H1 f = some (fnQ f Fn b)) (c1 : H1 Fn.c = some (LamX.CodeO Fn.c Fn.qual)) :
    ∃ F1, Rel M σ0 F1 H1 σ Γ ∧ Ext (own σ Γ) F H (own σ Γ) F1 H1 ∧ Rep M F1 (.fnv f Fn b) (.ref f) := by
  have Ff : F f = none := r.fr f0
  have up : ∀ {b : Addr} {u : HO}, H b = some u → NTb u → H1 b = some u := fun {b u} h n => eN b u h n.ne
  have Fup : ∀ {b : Addr} {u : HO}, F b = some u → H1 b = some u := fun {b u} h => up (r.sub _ _ h) (ntb_of fun ps z => by subst z; exact r.tab.f b ps h)
  have ex : Ex F (upd (upd F Fn.c (LamX.CodeO Fn.c Fn.qual)) f (fnQ f Fn b)) := fun x u h => by
    have n1 : x ≠ f := fun z => by rw [z, Ff] at h; cases h
    rw [upd_ne n1]
    by_cases z : x = Fn.c
    · have := Fup h
      rw [z, c1] at this
      rw [z, upd_same]
      exact this
    · rw [upd_ne z]; exact h
  have sub : Ex (upd (upd F Fn.c (LamX.CodeO Fn.c Fn.qual)) f (fnQ f Fn b)) H1 := fun x u h => by
    by_cases z : x = f
    · rw [z, upd_same] at h; cases h; rw [z]; exact f1
    · rw [upd_ne z] at h
      by_cases y : x = Fn.c
      · rw [y, upd_same] at h; cases h; rw [y]; exact c1
      · rw [upd_ne y] at h; exact Fup h
  have ft : ∀ x ps, upd (upd F Fn.c (LamX.CodeO Fn.c Fn.qual)) f (fnQ f Fn b) x = some (.tbl ps) → F x = some (.tbl ps) := fun x ps h => by
    by_cases z : x = f
    · rw [z, upd_same] at h
      cases b <;> cases h
    · rw [upd_ne z] at h
      by_cases y : x = Fn.c
      · rw [y, upd_same] at h; cases h
      · rwa [upd_ne y] at h
  have k : Keep F H (upd (upd F Fn.c (LamX.CodeO Fn.c Fn.qual)) f (fnQ f Fn b)) H1 := ⟨hs, fun _ => t1, ft⟩
  refine ⟨_, r.grow ex sub (fun a h => ?_) (r.tab.keep k), ⟨ex, fun x u _ h n => up h n, fun x u _ h hf n => ?_, fun _ z => .inl z, k⟩, rep_fnv.mpr ⟨rfl, upd_same, ?_⟩⟩
  · obtain ⟨h1, u, h2⟩ := r.ownF h
    have nx := r.ownNX h h2
    have e1 := up h2 nx.ntb
    have n1 : a ≠ f := fun z => by rw [z, f0] at h2; cases h2
    have n2 : a ≠ Fn.c := fun z => by rw [z, c1] at e1; cases e1; exact nx
    rw [upd_ne n1, upd_ne n2]
    exact ⟨e1.trans h2.symm, h1⟩
  · have n1 : x ≠ f := fun z => by rw [z, f0] at h; cases h
    have n2 : x ≠ Fn.c := fun z => by
      have e1 := up h n.ntb
      rw [z, c1] at e1
      cases e1
      exact n
    rw [upd_ne n1, upd_ne n2]
    exact hf
  · by_cases z : Fn.c = f
    · have e := c1
      rw [z, f1] at e
      rw [z, upd_same]
      exact e
    · rw [upd_ne z]; exact upd_same
end Nv
-- N100
namespace Nv
open PySem PySem.Spec PyProof.Rows L2
open Evl (Ex)
/-- a function that is handed on: n parameters; ds what its captured names hold -/
structure FA where
  n : Nat
  f : Addr
  F : NdefX.NF
  b : Option Expr
  fr : List Str
  ws : List V
  ds : List D
  G : List AV → FR
def FA.fn (a : FA) : Slot := .dat (.fnv a.f a.F a.b)
def FA.exs (a : FA) : Ev := List.zipWith (fun w d => Slot.dat (.exv w d)) a.ws a.ds
structure FA.At (P : Program) (w : World) (K : PySem.W.Frag) (mg : Str → Option Value) (base : Heap) (k : Nat) (s : Shared) (H : Hp) (a : FA) : Prop where
  pr : FnV P w K mg base k a.f a.F a.b a.fr a.ws (fun vs H Q E => spD ⟨K, mg⟩ (a.n + a.ws.length) a.G (vs ++ a.ws) H Q E)
  ce : NdefX.CellsAt a.F.cl a.fr (a.ws.map some) s.heap H
structure FA.Ok (P : Program) (w : World) (K : PySem.W.Frag) (mg : Str → Option Value) (base : Heap) (k : Nat) (s : Shared) (H F : Hp) (a : FA) : Prop where
  at_ : a.At P w K mg base k s H
  re : Reps ⟨K, mg⟩ F a.ds a.ws
  fn : Rep ⟨K, mg⟩ F (.fnv a.f a.F a.b) (.ref a.f)
def FlatR (M : Md) (F : Hp) : L2.St → Ev → Prop
  | [], [] => True
  | s :: σ, g :: Γ => (g = .un ∨ ∃ d v, g = .dat d ∧ s = some v ∧ Rep M F d v) ∧ FlatR M F σ Γ
  | _, _ => False
section
variable {M : Md} {F H : Hp}
theorem FlatR.app : ∀ {σ τ : L2.St} {Γ Δ : Ev}, FlatR M F σ Γ → FlatR M F τ Δ → FlatR M F (σ ++ τ) (Γ ++ Δ)
  | [], _, [], _, _, h => h
  | [], _, _ :: _, _, h, _ => h.elim
  | _ :: _, _, [], _, h, _ => h.elim
  | s :: σ, τ, g :: Γ, Δ, h, h2 => ⟨h.1, FlatR.app h.2 h2⟩
theorem FlatR.reps : ∀ {ds : List Nv.D} {vs : List V}, Reps M F ds vs → FlatR M F (vs.map some) (ds.map Slot.dat)
  | [], _, h => by cases reps_nil.mp h; trivial
  | d :: ds, _, h => by
    obtain ⟨v, r, rfl, h1, h2⟩ := reps_cons.mp h
    exact ⟨.inr ⟨d, v, rfl, rfl, h1⟩, FlatR.reps h2⟩
theorem FlatR.uns : ∀ {n : Nat}, FlatR M F (List.replicate n none) (List.replicate n Slot.un)
  | 0 => trivial
  | n + 1 => ⟨.inl rfl, FlatR.uns⟩
theorem FlatR.exs : ∀ {ds : List Nv.D} {vs : List V}, Reps M F ds vs → FlatR M F (vs.map some) (List.zipWith (fun w d => Slot.dat (.exv w d)) vs ds)
  | [], _, h => by cases reps_nil.mp h; trivial
  | d :: ds, _, h => by
    obtain ⟨v, r, rfl, h1, h2⟩ := reps_cons.mp h
    exact ⟨.inr ⟨_, v, rfl, rfl, rep_exv.mpr ⟨rfl, h1⟩⟩, FlatR.exs h2⟩
theorem FlatR.len : ∀ {σ : L2.St} {Γ : Ev}, FlatR M F σ Γ → σ.length = Γ.length
  | [], [], _ => rfl
  | [], _ :: _, h => h.elim
  | _ :: _, [], h => h.elim
  | _ :: _, _ :: _, h => congrArg (· + 1) (FlatR.len h.2)
theorem FlatR.get : ∀ {σ : L2.St} {Γ : Ev} {i : Nat} {s : Option V} {g : Slot}, FlatR M F σ Γ → σ[i]? = some s → Γ[i]? = some g → g = .un ∨ ∃ d v, g = .dat d ∧ s = some v ∧ Rep M F d v
  | [], [], _, _, _, _, h, _ => nomatch h
  | [], _ :: _, _, _, _, h, _, _ => h.elim
  | _ :: _, [], _, _, _, h, _, _ => h.elim
  | s :: σ, g :: Γ, 0, _, _, h, h1, h2 => by cases h1; cases h2; exact h.1
  | s :: σ, g :: Γ, i + 1, _, _, h, h1, h2 => FlatR.get (i := i) h.2 (by simpa using h1) (by simpa using h2)
theorem rel_flat {σ0 : L2.St} {σ : L2.St} {Γ : Ev} (h : FlatR M F σ Γ) (sub : Ex F H) (tb : TabI M F H) : Rel M σ0 F H σ Γ := by
  refine ⟨sub, h.len, fun i s g h1 h2 => ?_, fun i j t o t' o' a h1 h2 h3 h4 => ?_, tb⟩
  · rcases h.get h1 h2 with rfl | ⟨d, v, rfl, rfl, hr⟩
    · trivial
    · exact ⟨v, rfl, hr⟩
  · rcases h.get h3 h1 with z | ⟨d, v, z, _⟩ <;> cases z
theorem own_flat {σ : L2.St} {Γ : Ev} (h : FlatR M F σ Γ) {b : Addr} : ¬ own σ Γ b := fun ⟨i, t, o, h1, h2⟩ => by
  rcases h.get h2 h1 with z | ⟨d, v, z, _⟩ <;> cases z
theorem tagA_dat : ∀ {l : List Nv.D} {k : Nat}, tagA k (l.map .dat) = l.map Slot.dat
  | [], _ => rfl
  | d :: l, k => by
    show Slot.dat d :: tagA (k + 1) (l.map .dat) = _
    rw [tagA_dat]
    rfl
end
abbrev SgF := List (Nat × List D × (List AV → FR))
def sgOf (fas : List FA) : SgF := fas.map fun a => (a.n, a.ds, a.G)
def envFA (m u : Nat) (dds : List D) (fas : List FA) : Ev :=
  dds.map Slot.dat ++ (fas.map FA.fn ++ (List.replicate u .un ++ (fas.flatMap FA.exs ++ List.replicate (m - (dds.length + fas.length + u + (fas.flatMap FA.exs).length)) .un)))
def runFA (m u : Nat) (body : List FA → Ev → Out) (fas : List FA) (dds : List D) : FR := match body fas (envFA m u dds fas) with
  | .nx _ => .ok (.dat .non) []
  | .rt av _ => .ok av []
  | .ex n l _ => .ex n l []
  | _ => .bad
def Fits (fas : List FA) : Prop := ∀ a ∈ fas, a.ws.length = a.ds.length
open Classical in
noncomputable def fnF (m u : Nat) (body : List FA → Ev → Out) (sg : SgF) (dds : List D) : FR :=
  if dds.length + sg.length + u + (sg.flatMap fun p => p.2.1).length ≤ m then (if h : ∃ r, ∀ fas, sgOf fas = sg → Fits fas → runFA m u body fas dds = r then h.choose else .bad) else .bad
def nf0 : NdefX.NF := ⟨"", "", ⟨[], [], none, [], [], none, []⟩, [], ⟨.function, [], false, false, []⟩, [], 0⟩
def faOf (p : Nat × List D × (List AV → FR)) : FA := ⟨p.1, 0, nf0, none, [], p.2.1.map fun _ => .non, p.2.1, p.2.2⟩
/-- how such a run is shown -/
theorem fnF_is {m u : Nat} {body : List FA → Ev → Out} {sg : SgF} {dds : List D} {r : FR} (h1 : dds.length + sg.length + u + (sg.flatMap fun p => p.2.1).length ≤ m) (h : ∀ fas, sgOf fas = sg → Fits fas → runFA m u body fas dds = r) : fnF m u body sg dds = r := by
  have ex : ∃ r, ∀ fas, sgOf fas = sg → Fits fas → runFA m u body fas dds = r := ⟨r, h⟩
  have e1 : sgOf (sg.map faOf) = sg := by
    unfold sgOf
    rw [List.map_map]
    exact List.map_id' sg
  have e2 : Fits (sg.map faOf) := fun a ha => by
    obtain ⟨p, _, rfl⟩ := List.mem_map.mp ha
    exact List.length_map ..
  unfold fnF
  rw [if_pos h1, dif_pos ex, ← ex.choose_spec _ e1 e2, ← h _ e1 e2]
def ResF (M : Md) (F H : Hp) (Q : VK) (E : XK) : FR → Prop
  | .ok av _ => ∀ F' H' v, Ext noA F H noA F' H' → Ex F' H' → AVN M H F' H' v av → Q v H'
  | .ex n l _ => ∀ F' H' C dx, Ext noA F H noA F' H' → Ex F' H' → M.mg n = some (.ref C) → XR M F' l dx → E (.ref C) dx H'
  | .bad => False
structure FnF (P : Program) (w : World) (K : PySem.W.Frag) (mg : Str → Option Value) (base : Heap) (k kk : Nat) (f : Addr) (fd : FuncData) (ps : List Str) (Gf : SgF → List D → FR) : Prop where
  run : ∀ (A : Around) (outer : List Env) (s : Shared) (H : Hp) (args : Args) (us : List Value) (dvs : List V) (Q : VK) (E : XK) (F : Hp) (dds : List D) (fas : List FA), Room k A → Env0 P w K mg base A outer s H → BindsTo s fd args (ps.zip us) →
    Vals (dvs ++ fas.map fun a => V.ref a.f) us → dds.length + fas.length = ps.length → TabI ⟨K, mg⟩ F H → Ex F H → Reps ⟨K, mg⟩ F dds dvs → (∀ a ∈ fas, a.Ok P w K mg base kk s H F) → ResF ⟨K, mg⟩ F H Q E (Gf (sgOf fas) dds) →
    codeAny (model P w) A (.call (.ref f) args) (CR (L2.CX P w) outer P w H s Q E) s
theorem FnF.mono {P : Program} {w : World} {K : PySem.W.Frag} {mg : Str → Option Value} {base : Heap} {j k kk : Nat} {f : Addr} {fd : FuncData} {ps : List Str} {Gf : SgF → List D → FR} (o : FnF P w K mg base j kk f fd ps Gf) (h : j ≤ k) : FnF P w K mg base k kk f fd ps Gf :=
  ⟨fun A outer s H args us dvs Q E F dds fas hr => o.run A outer s H args us dvs Q E F dds fas (hr.mono h)⟩
theorem exs_len : ∀ {fas : List FA}, Fits fas → (fas.flatMap FA.exs).length = ((sgOf fas).flatMap fun p => p.2.1).length
  | [], _ => rfl
  | a :: fas, h => by
    have h1 := h a List.mem_cons_self
    have h2 := exs_len (fas := fas) fun b hb => h b (List.mem_cons_of_mem _ hb)
    show (FA.exs a ++ fas.flatMap FA.exs).length = (a.ds ++ (sgOf fas).flatMap fun p => p.2.1).length
    rw [List.length_append, List.length_append, h2]
    unfold FA.exs
    rw [List.length_zipWith, h1, Nat.min_self]
theorem flat_exs {M : Md} {F : Hp} : ∀ {fas : List FA}, (∀ a ∈ fas, Reps M F a.ds a.ws) → FlatR M F ((fas.flatMap (·.ws)).map some) (fas.flatMap FA.exs)
  | [], _ => trivial
  | a :: fas, h => by
    rw [List.flatMap_cons, List.flatMap_cons, List.map_append]
    exact (FlatR.exs (h a List.mem_cons_self)).app (flat_exs fun b hb => h b (List.mem_cons_of_mem _ hb))
theorem flat_fns {M : Md} {F : Hp} : ∀ {fas : List FA}, (∀ a ∈ fas, Rep M F (.fnv a.f a.F a.b) (.ref a.f)) → FlatR M F ((fas.map fun a => V.ref a.f).map some) (fas.map FA.fn)
  | [], _ => trivial
  | a :: fas, h => ⟨.inr ⟨_, _, rfl, rfl, h a List.mem_cons_self⟩, flat_fns fun b hb => h b (List.mem_cons_of_mem _ hb)⟩
section
variable {P : Program} {w : World} {K : PySem.W.Frag} {mg : Str → Option Value} {base : Heap}
/-- a def that gets functions -/
theorem fn_defF {x qual : Str} {st : Stmt} {f : Addr} {fd : FuncData} {N ps : List Str} {k kk u : Nat} {body : List FA → Ev → Out} (Fu : Fun K x qual st f fd) (S : FnScope N ps (defScope st)) (hg : ∀ (i : Nat) (y : Str), ps.length + u ≤ i → N[i]? = some y → ¬ Vis (defScope st) y)
    (hbody : ∀ (cdv : Value) (A : Around) (outer : List Env) (s : Shared) (H : Hp) (E : XK) (fas : List FA), Fits fas → (∀ a ∈ fas, a.At P w K mg base kk s H) → Room k (A.deeper (envOfC qual (defScope st) s.heap.objs.size f cdv)) →
      DSs (cxOf (L2.CX P w) P w K mg base N qual (defScope st) f cdv A outer s H E) ⟨⟨K, mg⟩, [], fun cls d _ H => E cls d H⟩ (defBody st) (body fas)) : FnF P w K mg base (k + 1) kk f fd ps (fnF N.length u body) := by
  obtain ⟨oc, od, kV, doc, pm, an, cdv, ct, osl, rfl, lk, hcd⟩ := Fu.ex
  refine ⟨fun A outer s H args us dvs Q E F dds fas hr e0 hb r hn tb sub rd ok res => ?_⟩
  unfold fnF at res
  split at res
  · rename_i hm
    split at res
    · rename_i hx
      have fit : Fits fas := fun a ha => (ok a ha).re.length
      rw [← hx.choose_spec fas rfl fit] at res
      have hl : (dvs ++ fas.map fun a => V.ref a.f).length = ps.length := by rw [List.length_append, List.length_map, rd.length]; exact hn
      have le := exs_len fit
      have lsg : (sgOf fas).length = fas.length := List.length_map ..
      rw [lsg, ← le] at hm
      obtain ⟨rest, er⟩ : ∃ rest, rest = N.length - (dds.length + fas.length + u + (fas.flatMap FA.exs).length) := ⟨_, rfl⟩
      have fl : FlatR (⟨K, mg⟩ : Md) F (dvs.map some ++ ((fas.map fun a => V.ref a.f).map some ++ (List.replicate u none ++ ((fas.flatMap (·.ws)).map some ++ List.replicate rest none)))) (envFA N.length u dds fas) := by
        unfold envFA
        rw [← er]
        exact (FlatR.reps rd).app ((flat_fns fun a ha => (ok a ha).fn).app (FlatR.uns.app ((flat_exs fun a ha => (ok a ha).re).app FlatR.uns)))
      obtain ⟨σg, eg⟩ : ∃ σg, σg = (dvs.map some ++ ((fas.map fun a => V.ref a.f).map some ++ (List.replicate u none ++ ((fas.flatMap (·.ws)).map some ++ List.replicate rest none)))) := ⟨_, rfl⟩
      rw [← eg] at fl
      have lw : ((fas.flatMap (·.ws)).map some).length = (fas.flatMap FA.exs).length := (flat_exs (M := (⟨K, mg⟩ : Md)) (F := F) fun a ha => (ok a ha).re).len
      have lg : σg.length = N.length := by
        rw [eg]
        simp only [List.length_append, List.length_map, List.length_replicate] at lw ⊢
        have := rd.length
        omega
      refine LamX.run_ofS (N := N) (ps := ps) (us := us) (vs := dvs ++ fas.map fun a => V.ref a.f) lk hcd S hr e0 hb r hl fun hr' => ?_
      have hq := hbody cdv A outer s H E fas fit (fun a ha => (ok a ha).at_) hr'
      refine ⟨fun De σ H => σ = L2.start N (dvs ++ fas.map fun a => V.ref a.f) ∧ tS ⟨⟨K, mg⟩, [], fun cls d _ H => E cls d H⟩ (body fas) De σg H, ⟨fun pins s' σ H' De I h => ?_⟩, rfl, F, _, rel_flat fl sub tb, ?_⟩
      · obtain ⟨rfl, h⟩ := h
        refine hq.run pins s' σg H' De (inv_ghost I (lg.trans I.len.symm) fun i y e v => ?_) h
        have hi : i < ps.length + u := by
          by_cases z : i < ps.length + u
          · exact z
          · exact absurd v (hg i y (by omega) e)
        have lN : i < N.length := (List.getElem?_eq_some_iff.mp e).1
        unfold L2.start
        rw [eg, ← List.append_assoc, ← List.map_append]
        by_cases z : i < ps.length
        · rw [List.getElem?_append_left (by rw [List.length_map]; omega), List.getElem?_append_left (by rw [List.length_map]; omega)]
        · have e1 : ∀ X : L2.St, ((dvs ++ fas.map fun a => V.ref a.f).map some ++ (List.replicate u none ++ X))[i]? = some none := fun X => by
            rw [List.getElem?_append_right (by rw [List.length_map, hl]; omega), List.length_map, hl, List.getElem?_append_left (by rw [List.length_replicate]; omega), List.getElem?_replicate, if_pos (by omega)]
          have e2 : ((dvs ++ fas.map fun a => V.ref a.f).map some ++ List.replicate (N.length - (dvs ++ fas.map fun a => V.ref a.f).length) none)[i]? = some none := by
            rw [List.getElem?_append_right (by rw [List.length_map, hl]; omega), List.getElem?_replicate, if_pos (by rw [List.length_map, hl]; omega)]
          rw [e1, e2]
      · have A0 : ∀ b, own σg (envFA N.length u dds fas) b ↔ noA b := fun b => ⟨fun z => own_flat fl z, fun z => z.elim⟩
        have sh : ∀ {σ' : L2.St} {Γ' : Ev} {F' H' : Hp}, Ext (own σg (envFA N.length u dds fas)) F H (own σ' Γ') F' H' → Ext noA F H noA F' H' := fun {σ' Γ' F' H'} e => (e.congA A0).subA fun b z => z.elim
        unfold runFA at res
        cases hb2 : body fas (envFA N.length u dds fas) with
        | nx Γ' =>
          rw [hb2] at res
          exact fun σ' F' H' r' e' => res F' H' .non (sh e') r'.sub (show Rep _ _ _ _ from rep_non.mpr rfl)
        | rt av Γ' =>
          rw [hb2] at res
          refine fun σ' F' H' v r' e' a => res F' H' v (sh e') r'.sub ?_
          cases av with
          | dat d => exact a
          | own o =>
            obtain ⟨p, y1, y2, y3, y4, y5⟩ := a
            exact ⟨p, y1, y5.resolve_left fun z => (A0 p).mp z, y2, y4⟩
        | ex n l Γ' =>
          rw [hb2] at res
          exact fun σ' F' H' C dx r' e' m x => res F' H' C dx (sh e') r'.sub m x
        | bk Γ' => rw [hb2] at res; exact res.elim
        | ct Γ' => rw [hb2] at res; exact res.elim
        | bad => rw [hb2] at res; exact res.elim
    · exact res.elim
  · exact res.elim
end
end Nv
-- N101
namespace Nv
open PySem PySem.Spec PyProof.Rows L2
open Evl (Ex)
theorem cells_then {cl : List (Str × Addr)} {fr : List Str} {xs : List (Option V)} {fs : List Addr} {h0 h1 : Heap} {H0 H1 : Hp} (C : NdefX.CellsAt cl fr xs h0 H0) (u : Un fs [] H0 H1 h0 h1) : NdefX.CellsAt cl fr xs h1 H1 := by
  have kp : ∀ {y : Str} {c : Addr}, cl.lookup y = some c → ∀ {v : Option Value}, h0.IsCell c v → h1.IsCell c v := fun {y c} e v ⟨o, ho, hd⟩ => by
    obtain ⟨sl, q⟩ := u.any ho (C.all y c e).1 (fun z => nomatch z)
    exact ⟨_, q, hd⟩
  refine ⟨C.len, fun y c e => ?_, C.inj, fun i y e => ?_⟩
  · obtain ⟨n, v, z⟩ := C.all y c e
    refine ⟨?_, v, kp e z⟩
    obtain ⟨o, ho, _⟩ := z
    exact u.free c o ho n (fun z => nomatch z)
  · obtain ⟨c, hc, hv⟩ := C.has i y e
    refine ⟨c, hc, fun v ev => ?_⟩
    obtain ⟨x, r, z⟩ := hv v ev
    exact ⟨x, r, kp hc z⟩
theorem fnAt_q {X : Cx} {pins : List (Addr × Obj)} {σ : L2.St} {H : Hp} {s : Shared} {f : Addr} {Fn : NdefX.NF} {b : Option Expr} (I : Inv X pins σ H s) (e : H f = some (fnQ f Fn b)) : PySem.W.FnAt f s.heap := by
  cases b with
  | none =>
    obtain ⟨⟨od, sl, doc, pm, ctv, ho⟩, _, _⟩ := I.hok f _ e
    exact ⟨_, od, _, sl, ho⟩
  | some b =>
    obtain ⟨⟨pm, ctv, ho⟩, _, _⟩ := I.hok f _ e
    exact ⟨_, _, _, _, ho⟩
def resV : FR → Ev → Rs AV
  | .ok av _, Γ => .ok av Γ
  | .ex n l _, Γ => .ex n l Γ
  | .bad, _ => .bad
theorem resV_ok {av : AV} {outs Γ : Ev} : resV (.ok av outs) Γ = .ok av Γ := rfl
open Classical in
noncomputable def callV1 (off i : Nat) (a : FA) (os : List OV) (Γ1 : Ev) : Rs AV := match dats os with
  | some ds => if ds.length = a.n ∧ Γ1[i]? = some a.fn ∧ (Γ1.drop off).take a.ds.length = a.exs then resV (a.G (ds.map .dat ++ a.ds.map .dat)) Γ1 else .bad
  | none => .bad
open Classical in
/-- the slot i, that holds the j-th function, called; what it has captured stands from off on -/
noncomputable def callV (off i j : Nat) (fas : List FA) (as : Ev → Rs (List OV)) : Ev → Rs AV := fun Γ => match fas[j]? with
  | some a => if Γ[i]? = some a.fn then (as Γ).bind (callV1 off i a) else .bad
  | none => .bad
def offA (g : Nat) (fas : List FA) (j : Nat) : Nat := g + ((fas.take j).flatMap FA.exs).length
section
variable {M : Md} {σ0 σ : L2.St} {F H : Hp} {Γ : Ev}
theorem exs_reps (r : Rel M σ0 F H σ Γ) : ∀ (ws : List V) (ds : List Nv.D) (off : Nat), ws.length = ds.length → (Γ.drop off).take ds.length = List.zipWith (fun w d => Slot.dat (.exv w d)) ws ds → Reps M F ds ws
  | [], [], _, _, _ => Reps.nil
  | [], _ :: _, _, h, _ => by cases h
  | _ :: _, [], _, h, _ => by cases h
  | w :: ws, d :: ds, off, h, e => by
    rw [List.length_cons, List.zipWith_cons_cons] at e
    cases q : Γ.drop off with
    | nil => rw [q] at e; cases e
    | cons x rest =>
      rw [q, List.take_succ_cons] at e
      injection e with e1 e2
      have at_ : Γ[off]? = some x := by
        have := congrArg (fun l : Ev => l[0]?) q
        rw [List.getElem?_drop] at this
        simpa using this
      have dr : Γ.drop (off + 1) = rest := by
        rw [← List.tail_drop, q]
        rfl
      subst e1
      obtain ⟨v, h1, h2⟩ := r.dat at_
      obtain ⟨rfl, h3⟩ := rep_exv.mp h2
      exact Reps.cons h3 (exs_reps r ws ds (off + 1) (by simpa using h) (by rw [dr]; exact e2))
/-- what is told of a function's run -/
theorem po_resV {c : Cf} {F1 H1 : Hp} {Γ1 : Ev} {vs : List V} {ds : List Nv.D} {n : Nat} {G : List AV → FR} {Q : VK} (r1 : Rel c.M c.σ0 F1 H1 σ Γ1) (e1 : Ext (own σ Γ) F H (own σ Γ1) F1 H1) (hr : Reps c.M F1 ds vs) (hn : vs.length = n)
    (q : Po c (vrO c.M) σ F H Γ (resV (G (ds.map .dat)) Γ1) Q) : spD c.M n G vs H1 Q (WE c.W σ) := by
  have fl := FlatR.reps hr
  have A0 : ∀ b, own (vs.map some) (ds.map Slot.dat) b ↔ noA b := fun b => ⟨fun z => own_flat fl z, fun z => z.elim⟩
  refine ⟨hn, F1, ds.map .dat, ?_, ?_⟩
  · rw [tagA_dat]
    exact rel_flat fl r1.sub r1.tab
  · rw [tagA_dat]
    have go : ∀ {outs : Ev} {F' H' : Hp}, Rel c.M (vs.map some) F' H' (vs.map some) outs → Ext (own (vs.map some) (ds.map Slot.dat)) F1 H1 (own (vs.map some) outs) F' H' → Rel c.M c.σ0 F' H' σ Γ1 ∧ Ext (own σ Γ) F H (own σ Γ1) F' H' := fun {outs F' H'} r' e' => by
      have ee : Ext noA F1 H1 noA F' H' := (e'.congA A0).subA fun b z => z.elim
      exact ⟨r1.op ee r'.sub, e1.trans (ee.sub fun b z => z.elim)⟩
    cases hg : G (ds.map .dat) with
    | bad => rw [hg] at q; exact q.elim
    | ok av outs =>
      rw [hg] at q
      intro F' H' v r' e' a
      obtain ⟨y1, y2⟩ := go r' e'
      refine q F' H' v y1 y2 ?_
      cases av with
      | dat d => exact a
      | own o =>
        obtain ⟨p, z1, z2, z3, z4, z5⟩ := a
        have pn : H1 p = none := z5.resolve_left fun z => (A0 p).mp z
        refine ⟨p, z1, z2, fun z => ?_, z4, ?_⟩
        · obtain ⟨_, u, hu⟩ := r1.ownF z
          rw [pn] at hu
          cases hu
        · by_cases z : own σ Γ p
          · exact .inl z
          · exact .inr (e1.k.hs p pn)
    | ex n l outs =>
      rw [hg] at q
      intro F' H' C dx r' e' m x
      obtain ⟨y1, y2⟩ := go r' e'
      exact q F' H' C dx y1 y2 m x
end
section
variable {X : Cx} {c : Cf} {x : Str} {p pos : Pos} {e : Expr} {es : List Expr} {k k' i j off : Nat} {fas : List FA} {a : FA} {as : Ev → Rs (List OV)}
theorem run_V {pins : List (Addr × Obj)} {σ : L2.St} {H : Hp} {s : Shared} {Q : VK} {us : List Value} {vs : List V} {E : XK} (A : a.At X.prog X.w X.K X.mg X.base k X.s_0 X.H_0) (hex : X.ex = []) (hk : k ≤ k') (hr : Room k' X.A) (hx : ∀ pins H s e s', Inv X pins σ H s → L2.CX X.prog X.w X.stack H s E e s' → X.xe e s') (I : Inv X pins σ H s)
    (h1 : H a.f = some (fnQ a.f a.F a.b)) (h2 : H a.F.c = some (LamX.CodeO a.F.c a.F.qual)) (r : Vals vs us) (q : spD ⟨X.K, X.mg⟩ (a.n + a.ws.length) a.G (vs ++ a.ws) H Q E) :
    wpAny (model X.prog X.w) X.A (call (.ref a.f) us) (EP X pins σ Q) X.xe s := by
  have un : Un X.fs [] X.H_0 H X.s_0.heap s.heap := by
    have := I.base
    rw [hex] at this
    exact this
  refine wpAny_call (codeAny_mono (A.pr.run X.A X.stack s H us vs Q E (hr.mono hk) I.env0 h1 h2 (cells_then A.ce un) r q) fun r s' hq => ?_)
  cases r with
  | error e => exact hx pins H s e s' I hq
  | ok fl =>
    cases fl with
    | ret u => exact I.after hq
    | next => exact False.elim hq
    | brk => exact False.elim hq
    | cont => exact False.elim hq
theorem callV_at {σ : L2.St} {F H F2 H2 : Hp} {Γ Γ2 : Ev} {Q : VK} {vs : List V} {os : List OV} (ft : a.ws.length = a.ds.length) (r2 : Rel c.M c.σ0 F2 H2 σ Γ2) (e2 : Ext (own σ Γ) F H (own σ Γ2) F2 H2) (a2 : ovsR c.M σ F2 vs os) (q2 : Po c (vrO c.M) σ F H Γ (callV1 off i a os Γ2) Q) :
    H2 a.f = some (fnQ a.f a.F a.b) ∧ H2 a.F.c = some (LamX.CodeO a.F.c a.F.qual) ∧ spD c.M (a.n + a.ws.length) a.G (vs ++ a.ws) H2 Q (WE c.W σ) := by
  unfold callV1 at q2
  split at q2
  · rename_i ds hd
    split at q2
    · rename_i hh
      obtain ⟨h1, h2, h3⟩ := hh
      obtain ⟨v, g1, g2⟩ := r2.dat h2
      obtain ⟨rfl, g3, g4⟩ := rep_fnv.mp g2
      have rv := dats_reps hd a2
      have rw_ := exs_reps r2 a.ws a.ds off ft h3
      refine ⟨r2.sub _ _ g3, r2.sub _ _ g4, po_resV r2 e2 (rv.append rw_) ?_ ?_⟩
      · rw [List.length_append, rv.length, h1]
      · rw [List.map_append]
        exact q2
    · exact q2.elim
  · exact q2.elim
theorem do_callV (ha : fas[j]? = some a) (ft : a.ws.length = a.ds.length) (A : a.At X.prog X.w X.K X.mg X.base k X.s_0 X.H_0) (hex : X.ex = []) (hk : k ≤ k') (hr : Room k' X.A) (tk : Takes X c.W) (hM : c.M = ⟨X.K, X.mg⟩) (hN : X.N[i]? = some x) (hv : Vis X.env.scope x) (hes : DA X c (e :: es) as)
    (hd : (x == ("__debug__" : Str)) = false := by decide) (hcd : (x == ("__classdict__" : Str)) = false := by decide)
    (he : starEach (e :: es) X.env = (false, eval e X.env) :: starEach es X.env := by rfl) (hpl : (backTo pos (starEach es X.env)).any (·.1) = false := by rfl) : DO X c (.Call (.Name x p) (e :: es) [] pos) (callV off i j fas as) := by
  refine ⟨fun pins s σ H Q I ⟨F, Γ, r, q⟩ => ?_⟩
  unfold callV at q
  rw [ha] at q
  dsimp only at q
  split at q
  · rename_i hi
    obtain ⟨v, g1, g2⟩ := r.dat hi
    obtain ⟨rfl, g3, g4⟩ := rep_fnv.mp g2
    refine wpAny_Call_Name_kw (thn ((pe_var (pos := p) hN hv hd hcd).run pins s σ H (fun v H1 => v = .ref a.f ∧ H1 = H) I ⟨.ref a.f, g1, rfl, rfl⟩) fun u s1 ⟨v, H1, I1, r1, q1⟩ => ?_)
    obtain ⟨ev, eH⟩ := q1
    subst ev
    rw [eH] at I1
    cases r1
    refine PySem.W.callWith_F (first := []) (fnAt_q I1 (r.sub _ _ g3)) (thn (hes.run pos pins s1 σ H _ I1 ⟨F, Γ, r, Po.bind (R := vrA c.M) q⟩) fun us s2 ⟨vs, H2, I2, rv, F2, Γ2, os, r2, e2, a2, q2⟩ => ?_) he hpl
    obtain ⟨y1, y2, y3⟩ := callV_at ft r2 e2 a2 q2
    rw [hM] at y3
    refine ⟨fnAt_q I2 y1, ?_⟩
    exact run_V A hex hk hr (passAt tk σ) I2 y1 y2 rv y3
  · exact q.elim
end
end Nv
-- N102
namespace Nv
open PySem PySem.Spec PyProof.Rows L2
open Evl (Ex)
abbrev FnP := Addr → NdefX.NF → Option Expr → Prop
def vrF (M : Md) (Pq : FnP) : VRel Unit V := fun _ _ _ _ F' _ _ v _ => ∃ f Fn b, Pq f Fn b ∧ v = .ref f ∧ Rep M F' (.fnv f Fn b) (.ref f)
def okU : Ev → Rs Unit := fun Γ => .ok () Γ
def lamP (X : Cx) (params : Arguments) (scope : Scope) (body : Expr) : FnP := fun _ Fn b => b = some body ∧ ∃ c', Fn = lamF X params scope c'
def nameP (f : Addr) (Fn : NdefX.NF) : FnP := fun f' F' b => f' = f ∧ F' = Fn ∧ b = none
open Classical in
noncomputable def nameF (i : Nat) (f : Addr) (Fn : NdefX.NF) : Ev → Rs Unit := fun Γ => if Γ[i]? = some (.dat (.fnv f Fn none)) then .ok () Γ else .bad
def FsR (M : Md) (F : Hp) : List FnP → List V → Prop
  | [], [] => True
  | Pq :: Ps, v :: vs => (∃ f Fn b, Pq f Fn b ∧ v = .ref f ∧ Rep M F (.fnv f Fn b) (.ref f)) ∧ FsR M F Ps vs
  | _, _ => False
theorem FsR.mono {M : Md} {F F' : Hp} (e : Ex F F') : ∀ {Ps : List FnP} {vs : List V}, FsR M F Ps vs → FsR M F' Ps vs
  | [], [], _ => trivial
  | [], _ :: _, h => h.elim
  | _ :: _, [], h => h.elim
  | _ :: _, _ :: _, ⟨⟨f, Fn, b, h1, h2, h3⟩, t⟩ => ⟨⟨f, Fn, b, h1, h2, h3.mono e⟩, FsR.mono e t⟩
def vrFs (M : Md) (Ps : List FnP) : VRel Unit (List V) := fun _ _ _ _ F' _ _ vs _ => FsR M F' Ps vs
def vrAF (M : Md) (Ps : List FnP) : VRel (List OV) (List V) := fun σ _ _ _ F' _ _ vs os => ∃ dvs fvs, vs = dvs ++ fvs ∧ ovsR M σ F' dvs os ∧ FsR M F' Ps fvs
section
variable {X : Cx} {c : Cf} {e : Expr} {es : List Expr} {Pq : FnP} {Ps : List FnP}
theorem df_lam {nm : Nat → Nat → Str} {cd P : Addr} {params : Arguments} {body : Expr} {scope : Scope} {pos : Pos} (tb : LamX.TabB X.base X.mg cd P) (ec : X.env.code = .ref cd) (im : (P, nm) ∈ theTabs)
    (en : nm pos.line pos.col = X.env.qual ++ "<lambda>") (hu : ∀ p ∈ theTabs, p.1 = P → p.2 = nm) (ed : defaultsOf params X.env = ([], [])) (ef : ∀ y ∈ scope.names, y.2 = .free → X.env.scope.names.lookup y.1 = some .cell ∨ X.env.scope.names.lookup y.1 = some .free) :
    PE X (.Lambda params body scope pos) (tR c (vrF c.M (lamP X params scope body)) okU) :=
  PE.of (pe_lamN tb ec im en hu ed ef) fun σ H Q ⟨F, Γ, r, q⟩ => ⟨r.tab.t, fun f c' H1 eN hs t1 f0 f1 c1 => by
    obtain ⟨F1, r1, e1, rp⟩ := rel_fn (b := some body) r eN hs t1 f0 f1 c1
    exact q F1 H1 (.ref f) r1 e1 ⟨f, _, _, ⟨rfl, c', rfl⟩, rfl, rp⟩⟩
theorem df_name {i : Nat} {f : Addr} {Fn : NdefX.NF} (h : PE X e (tVar i)) : PE X e (tR c (vrF c.M (nameP f Fn)) (nameF i f Fn)) := by
  refine PE.of h fun σ H Q ⟨F, Γ, r, q⟩ => ?_
  unfold nameF at q
  split at q
  · rename_i hi
    obtain ⟨v, h1, h2⟩ := r.dat hi
    have e := (rep_fnv.mp h2).1
    subst e
    exact ⟨_, h1, q F H _ r Ext.refl ⟨f, Fn, none, ⟨rfl, rfl, rfl⟩, rfl, h2⟩⟩
  · exact q.elim
def andU (f g : Ev → Rs Unit) : Ev → Rs Unit := fun Γ => (f Γ).bind fun _ Γ => (g Γ).bind fun _ Γ => .ok () Γ
theorem dfs_nil : PA X [] (tR c (vrFs c.M []) okU) := PA.of pa_nil fun σ H Q ⟨F, Γ, r, q⟩ => q F H [] r Ext.refl trivial
theorem dfs_cons {f g : Ev → Rs Unit} (h1 : PE X e (tR c (vrF c.M Pq) f)) (h2 : PA X es (tR c (vrFs c.M Ps) g)) (hs : starEach (e :: es) X.env = (false, eval e X.env) :: starEach es X.env := by rfl) : PA X (e :: es) (tR c (vrFs c.M (Pq :: Ps)) (andU f g)) := by
  refine PA.of (pa_cons h1 h2 hs) fun σ H Q ⟨F, Γ, r, q⟩ => ⟨F, Γ, r, ?_⟩
  refine (Po.bind (R := vrF c.M Pq) q).imp fun v H1 ⟨F1, Γ1, o, r1, e1, a1, q1⟩ => ⟨F1, Γ1, r1, ?_⟩
  refine (Po.bind2 (R := vrFs c.M Ps) (S := vrFs c.M (Pq :: Ps)) q1 e1).imp fun vs H2 ⟨F2, Γ2, os, r2, e2, a2, q2⟩ => ?_
  obtain ⟨f0, Fn, b, k1, k2, k3⟩ := a1
  exact q2 F2 H2 (v :: vs) r2 (e1.trans e2) ⟨⟨f0, Fn, b, k1, k2, k3.mono e2.ff⟩, a2⟩
def endF (fu : Ev → Rs Unit) : Ev → Rs (List OV) := fun Γ => (fu Γ).bind fun _ Γ => .ok [] Γ
theorem daf_end {fu : Ev → Rs Unit} (h : PA X es (tR c (vrFs c.M Ps) fu)) : PA X es (tR c (vrAF c.M Ps) (endF fu)) :=
  PA.of h fun σ H Q ⟨F, Γ, r, q⟩ => ⟨F, Γ, r, (Po.bind (R := vrFs c.M Ps) q).imp fun vs H1 ⟨F1, Γ1, o, r1, e1, a1, q1⟩ => q1 F1 H1 vs r1 e1 ⟨[], vs, rfl, trivial, a1⟩⟩
theorem daf_cons {f : Ev → Rs OV} {g : Ev → Rs (List OV)} (h1 : DB X c e f) (h2 : PA X es (tR c (vrAF c.M Ps) g)) (hs : starEach (e :: es) X.env = (false, eval e X.env) :: starEach es X.env := by rfl) : PA X (e :: es) (tR c (vrAF c.M Ps) (consA f g)) := by
  refine PA.of (pa_cons h1 h2 hs) fun σ H Q ⟨F, Γ, r, q⟩ => ⟨F, Γ, r, ?_⟩
  refine (Po.bind (R := vrB c.M) q).imp fun v H1 ⟨F1, Γ1, o, r1, e1, a1, q1⟩ => ⟨F1, Γ1, r1, ?_⟩
  refine (Po.bind2 (R := vrAF c.M Ps) (S := vrAF c.M Ps) q1 e1).imp fun vs H2 ⟨F2, Γ2, os, r2, e2, a2, q2⟩ => ?_
  obtain ⟨dvs, fvs, rfl, k1, k2⟩ := a2
  exact q2 F2 H2 _ r2 (e1.trans e2) ⟨v :: dvs, fvs, rfl, ⟨a1.ext e2.ff, k1⟩, k2⟩
end
def capD (Γ : Ev) : List Nat → Option (List D)
  | [] => some []
  | j :: js => match Γ[j]?, capD Γ js with
    | some (.dat d), some ds => some (d :: ds)
    | _, _ => none
abbrev Sp3 := Nat × List Nat × (List AV → FR)
def capsG (Γ : Ev) : List Sp3 → Option SgF
  | [] => some []
  | (n, js, G) :: r => match capD Γ js, capsG Γ r with
    | some ds, some sg => some ((n, ds, G) :: sg)
    | _, _ => none
def callFO1 (sp : List Sp3) (m : Nat) (Gf : SgF → List D → FR) (os : List OV) (Γ1 : Ev) : Rs AV := match dats os, capsG Γ1 sp with
  | some ds, some sg => if ds.length + sg.length = m then resV (Gf sg ds) Γ1 else .bad
  | _, _ => .bad
def callFO (sp : List Sp3) (m : Nat) (Gf : SgF → List D → FR) (as : Ev → Rs (List OV)) : Ev → Rs AV := fun Γ => (as Γ).bind (callFO1 sp m Gf)
def FSpec (X : Cx) (k : Nat) (Pq : FnP) (q : Sp3) : Prop := ∀ f Fn b, Pq f Fn b → ∃ fr, (X.Ok → NdefX.Caps X Fn.cl fr q.2.1) ∧ ∀ ws : List V, ws.length = q.2.1.length →
  FnV X.prog X.w X.K X.mg X.base k f Fn b fr ws (fun vs H Q E => spD ⟨X.K, X.mg⟩ (q.1 + ws.length) q.2.2 (vs ++ ws) H Q E)
def FSpecs (X : Cx) (k : Nat) : List FnP → List Sp3 → Prop
  | [], [] => True
  | Pq :: Ps, q :: qs => FSpec X k Pq q ∧ FSpecs X k Ps qs
  | _, _ => False
theorem cap_ws {M : Md} {σ0 σ : L2.St} {F H : Hp} {Γ : Ev} (r : Rel M σ0 F H σ Γ) : ∀ {js : List Nat} {ds : List Nv.D}, capD Γ js = some ds → ∃ ws : List V, js.map (NdefX.slotAt σ) = ws.map some ∧ Reps M F ds ws ∧ ws.length = js.length
  | [], ds, h => by cases h; exact ⟨[], rfl, Reps.nil, rfl⟩
  | j :: js, ds, h => by
    unfold capD at h
    split at h
    · rename_i d ds' h1 h2
      cases h
      obtain ⟨ws, k1, k2, k3⟩ := cap_ws r h2
      obtain ⟨v, g1, g2⟩ := r.dat h1
      refine ⟨v :: ws, ?_, Reps.cons g2 k2, by rw [List.length_cons, List.length_cons, k3]⟩
      rw [List.map_cons, List.map_cons, k1, NdefX.slotAt_of g1]
    · cases h
theorem fas_of {X : Cx} {pins : List (Addr × Obj)} {σ σ0 : L2.St} {F H : Hp} {s : Shared} {Γ : Ev} {k : Nat} (I : Inv X pins σ H s) (r : Rel ⟨X.K, X.mg⟩ σ0 F H σ Γ) :
    ∀ (Ps : List FnP) (qs : List Sp3) (fvs : List V) (sg : SgF), FSpecs X k Ps qs → FsR ⟨X.K, X.mg⟩ F Ps fvs → capsG Γ qs = some sg → ∃ fas : List FA, (fas.map fun a => V.ref a.f) = fvs ∧ sgOf fas = sg ∧ ∀ a ∈ fas, a.Ok X.prog X.w X.K X.mg X.base k s H F
  | [], [], fvs, sg, _, h2, h3 => by
    cases h3
    cases fvs with
    | nil => exact ⟨[], rfl, rfl, fun a ha => nomatch ha⟩
    | cons _ _ => exact h2.elim
  | [], _ :: _, _, _, h, _, _ => h.elim
  | _ :: _, [], _, _, h, _, _ => h.elim
  | Pq :: Ps, (n, js, G) :: qs, fvs, sg, h1, h2, h3 => by
    cases fvs with
    | nil => exact h2.elim
    | cons v fvs =>
      obtain ⟨⟨f, Fn, b, k1, k2, k3⟩, t2⟩ := h2
      obtain ⟨fr, cp, pr⟩ := h1.1 f Fn b k1
      unfold capsG at h3
      split at h3
      · rename_i ds sg' g1 g2
        cases h3
        obtain ⟨fas, z1, z2, z3⟩ := fas_of I r Ps qs fvs sg' h1.2 t2 g2
        obtain ⟨ws, w1, w2, w3⟩ := cap_ws r g1
        have ce := NdefX.cells_of I (cp I.ok)
        have ce : NdefX.CellsAt Fn.cl fr (js.map (NdefX.slotAt σ)) s.heap H := ce
        rw [w1] at ce
        refine ⟨⟨n, f, Fn, b, fr, ws, ds, G⟩ :: fas, by rw [List.map_cons, z1, k2], by show (n, ds, G) :: sgOf fas = _; rw [z2], fun a ha => ?_⟩
        rcases List.mem_cons.mp ha with rfl | ha
        · exact ⟨⟨pr ws w3, ce⟩, w2, k3⟩
        · exact z3 a ha
      · cases h3
/-- a def of the text that gets functions -/
structure DefFk (P : Program) (w : World) (K : PySem.W.Frag) (mg : Str → Option Value) (base : Heap) (k kk : Nat) (x : Str) (m : Nat) (Gf : SgF → List D → FR) : Prop where
  ex : ∃ (f : Addr) (fd : FuncData) (ps : List Str), mg x = some (.ref f) ∧ PySem.W.keepIn K (.ref f) = true ∧ Binds K fd ps [] ∧ ps.length = m ∧ FnF P w K mg base k kk f fd ps Gf
theorem po_resF {c : Cf} {σ : L2.St} {F H F1 H1 : Hp} {Γ Γ1 : Ev} {g : FR} {Q : VK} (r1 : Rel c.M c.σ0 F1 H1 σ Γ1) (e1 : Ext (own σ Γ) F H (own σ Γ1) F1 H1) (q : Po c (vrO c.M) σ F H Γ (resV g Γ1) Q) : ResF c.M F1 H1 Q (WE c.W σ) g := by
  cases g with
  | bad => exact q.elim
  | ok av outs =>
    intro F' H' v ee sub a
    refine q F' H' v (r1.op ee sub) (e1.trans (ee.sub fun b z => z.elim)) ?_
    cases av with
    | dat d => exact a
    | own o =>
      obtain ⟨p, z1, z2, z3, z4⟩ := a
      refine ⟨p, z1, z3, fun z => ?_, z4, ?_⟩
      · obtain ⟨_, u, hu⟩ := r1.ownF z
        rw [z2] at hu
        cases hu
      · by_cases z : own σ Γ p
        · exact .inl z
        · exact .inr (e1.k.hs p z2)
  | ex n l outs => exact fun F' H' C dx ee sub m x => q F' H' C dx (r1.op ee sub) (e1.trans (ee.sub fun b z => z.elim)) m x
section
variable {X : Cx} {c : Cf} {x : Str} {p pos : Pos} {e : Expr} {es : List Expr} {k k' kk m : Nat} {Gf : SgF → List D → FR} {Ps : List FnP} {qs : List Sp3} {as : Ev → Rs (List OV)}
theorem do_callF (D : DefFk X.prog X.w X.K X.mg X.base k kk x m Gf) (hk : k ≤ k') (hr : Room k' X.A) (tk : Takes X c.W) (hM : c.M = ⟨X.K, X.mg⟩) (hs : FSpecs X kk Ps qs) (ha : PA X (e :: es) (tR c (vrAF c.M Ps) as)) (hg : Gl X x := by rfl) (hdb : (x == ("__debug__" : Str)) = false := by decide)
    (he : starEach (e :: es) X.env = (false, eval e X.env) :: starEach es X.env := by rfl) (hpl : (backTo pos (starEach es X.env)).any (·.1) = false := by rfl) : DO X c (.Call (.Name x p) (e :: es) [] pos) (callFO qs m Gf as) := by
  obtain ⟨f0, fd, ps, h1, h2, h3, h4, Fn⟩ := D.ex
  refine ⟨fun pins s σ H Q I ⟨F, Γ, r, q⟩ => ?_⟩
  refine wpAny_Call_Name_kw (ld_glob I hg h1 ?_ hdb)
  refine PySem.W.callWith_K (h₀ := X.base) I.ok.mod.kin h2 (thn (ha.run pos pins s σ H _ I ⟨F, Γ, r, Po.bind (R := vrAF c.M Ps) q⟩) fun us s1 ⟨vs, H1, I1, rv, F1, Γ1, os, r1, e1, a1, q1⟩ => ⟨I1.kIn, ?_⟩) he hpl
  obtain ⟨dvs, fvs, rfl, k1, k2⟩ := a1
  unfold callFO1 at q1
  split at q1
  · rename_i ds sg hd hc
    split at q1
    · rename_i hl
      have r1' := r1
      rw [hM] at r1' k2
      obtain ⟨fas, z1, z2, z3⟩ := fas_of I1 r1' Ps qs fvs sg hs k2 hc
      have rd := dats_reps hd k1
      have res := po_resF r1 e1 q1
      have tab := r1.tab
      rw [hM] at rd res tab
      rw [← z2] at res
      rw [← z1] at rv
      have lf : fas.length = sg.length := by rw [← z2]; exact (List.length_map ..).symm
      have lu : us.length = ps.length := by
        rw [← rv.length, List.length_append, List.length_map, rd.length, lf, hl, h4]
      have b := h3 s1 us I1.kIn (by rw [List.append_nil]; exact lu)
      rw [List.append_nil] at b
      refine wpAny_call (codeAny_mono (Fn.run X.A X.stack s1 H1 ⟨us, []⟩ us dvs Q (WE c.W σ) F1 ds fas (hr.mono hk) I1.env0 b rv (by rw [lf, hl, h4]) tab r1.sub rd z3 res) fun r s' hq => ?_)
      cases r with
      | error e => exact passAt tk σ pins H1 s1 e s' I1 hq
      | ok fl =>
        cases fl with
        | ret u => exact I1.after hq
        | next => exact False.elim hq
        | brk => exact False.elim hq
        | cont => exact False.elim hq
    · exact q1.elim
  · exact q1.elim
end
end Nv
-- N103
namespace Nv
open PySem PySem.Spec PyProof.Rows L2
open Evl (Ex)
def Out.unI (i : Nat) : Out → Out
  | .nx Γ => .nx (Γ.set i .un)
  | .bk Γ => .bk (Γ.set i .un)
  | .ct Γ => .ct (Γ.set i .un)
  | .rt av Γ => .rt av (Γ.set i .un)
  | .ex n l Γ => .ex n l (Γ.set i .un)
  | .bad => .bad
theorem PoS.unI {c : Cf} {σ σ2 : L2.St} {F H F2 H2 : Hp} {Γ Γ2 : Ev} {o : Out} {De : Ends} {i : Nat} (h : PoS c σ F H Γ (o.unI i) De) (e : Ext (own σ Γ) F H (own σ2 Γ2) F2 H2) : PoS c σ2 F2 H2 Γ2 o De := by
  cases o with
  | nx Γ' => exact fun σ' F' H' r1 e1 => h σ' F' H' (rel_forget r1 i).1 ((e.trans e1).subA (rel_forget r1 i).2)
  | bk Γ' => exact fun σ' F' H' r1 e1 => h σ' F' H' (rel_forget r1 i).1 ((e.trans e1).subA (rel_forget r1 i).2)
  | ct Γ' => exact fun σ' F' H' r1 e1 => h σ' F' H' (rel_forget r1 i).1 ((e.trans e1).subA (rel_forget r1 i).2)
  | rt av Γ' =>
    refine fun σ' F' H' v r1 e1 a => h σ' F' H' v (rel_forget r1 i).1 ((e.trans e1).subA (rel_forget r1 i).2) ?_
    cases av with
    | dat d => exact a
    | own o =>
      obtain ⟨p, y1, y2, y3, y4, y5⟩ := a
      exact ⟨p, y1, y2, fun z => y3 ((rel_forget r1 i).2 p z), y4, e.back y5⟩
  | ex n l Γ' => exact fun σ' F' H' C dx r1 e1 m x => h σ' F' H' C dx (rel_forget r1 i).1 ((e.trans e1).subA (rel_forget r1 i).2) m x
  | bad => exact h
open Classical in
/-- def x(..) within a def, and what follows: the slot i holds the function -/
noncomputable def ndefS (i : Nat) (g : Addr → NdefX.NF → Ev → Out) : Ev → Out := fun Γ =>
  if setOk Γ i = true then (if h : ∃ o : Out, ∀ f Fn, (g f Fn (Γ.set i (.dat (.fnv f Fn none)))).unI i = o then h.choose else .bad) else .bad
theorem ndefS_is {i : Nat} {g : Addr → NdefX.NF → Ev → Out} {Γ : Ev} {o : Out} (h1 : setOk Γ i = true) (h : ∀ f Fn, (g f Fn (Γ.set i (.dat (.fnv f Fn none)))).unI i = o) : ndefS i g Γ = o := by
  have ex : ∃ o : Out, ∀ f Fn, (g f Fn (Γ.set i (.dat (.fnv f Fn none)))).unI i = o := ⟨o, h⟩
  unfold ndefS
  rw [if_pos h1, dif_pos ex, ← ex.choose_spec 0 nf0, ← h 0 nf0]
/-- the function of a def statement -/
abbrev nfOf (X : Cx) (st : Stmt) (name : Str) (c' : Addr) : NdefX.NF := NdefX.NF.of st name (X.env.qual ++ name) (cloFrom X.env.cells (C8.fnScope st).names []) c'
section
variable {X : Cx} {c : Cf}
theorem ds_ndef {st : Stmt} {ss : List Stmt} {nm : Nat → Nat → Str} {cd P : Addr} {name : Str} {pos : Pos} {i : Nat} {g : Addr → NdefX.NF → Ev → Out} (hst : st = .FunctionDef name (C8.fnArgs st) (C8.fnBody st) [] none [] (C8.fnScope st) none name pos) (tb : LamX.TabB X.base X.mg cd P) (ec : X.env.code = .ref cd) (im : (P, nm) ∈ theTabs)
    (en : nm pos.line pos.col = X.env.qual ++ name) (hu : ∀ p ∈ theTabs, p.1 = P → p.2 = nm) (hfree : ∀ y ∈ (C8.fnScope st).names, y.2 = .free → X.env.scope.names.lookup y.1 = some .cell ∨ X.env.scope.names.lookup y.1 = some .free)
    (hd0 : (C8.fnArgs st).defaults = []) (hk0 : (C8.fnArgs st).kw_defaults = []) (ha : annTrees (C8.fnArgs st) none X.env = []) (hN : X.N.Nodup) (hi : X.N[i]? = some name) (hx : Loc X.env.scope name) (hf : X.fn name = true ∨ X.env.scope.names.lookup name = some .local)
    (hrest : ∀ f c', DSs X c ss (g f (nfOf X st name c'))) : DSs X c (st :: ss) (ndefS i g) := by
  have h1 := NdefX.ps_ndefMS hst tb ec im en hu hfree hd0 hk0 ha hN hi hx hf
  refine ⟨fun pins s σ H De I ⟨F, Γ, r0, q⟩ => ?_⟩
  unfold ndefS at q
  split at q
  · rename_i hok
    split at q
    · rename_i ho
      have sp := ho.choose_spec
      refine wpAny_execs_cons (thn (h1.run pins s σ H { De with nx := fun σ1 H1 => ∃ f c' F1, Rel c.M c.σ0 F1 H1 σ1 (Γ.set i (.dat (.fnv f (nfOf X st name c') none))) ∧ PoS c σ1 F1 H1 (Γ.set i (.dat (.fnv f (nfOf X st name c') none))) (g f (nfOf X st name c') (Γ.set i (.dat (.fnv f (nfOf X st name c') none)))) De } I ⟨r0.tab.t, fun f c' H1 eN hs t1 f0 f1 c1 => ?_⟩) fun fl s1 q2 => ?_)
      · obtain ⟨F1, r1, e1, rp⟩ := rel_fn (Fn := nfOf X st name c') (b := none) r0 eN hs t1 f0 f1 c1
        have sg : setG Γ i (.dat (.fnv f (nfOf X st name c') none)) = some (Γ.set i (.dat (.fnv f (nfOf X st name c') none))) := by
          unfold setG
          rw [if_pos hok]
          rfl
        obtain ⟨r2, o2⟩ := set_rel (A0 := own σ Γ) (H0 := H) r1 sg rp
        refine ⟨f, c', F1, r2, ?_⟩
        have e2 : Ext (own σ Γ) F H (own (σ.set i (some (.ref f))) (Γ.set i (.dat (.fnv f (nfOf X st name c') none)))) F1 H1 := e1.own o2
        rw [← sp f (nfOf X st name c')] at q
        exact q.unI e2
      · cases fl with
        | next =>
          obtain ⟨σ1, H1, I1, f, c', F1, r2, q3⟩ := q2
          exact (hrest f c').run pins s1 σ1 H1 De I1 ⟨F1, _, r2, q3⟩
        | ret v => exact q2
        | brk => exact q2
        | cont => exact q2
    · exact q.elim
  · exact q.elim
theorem fspec_lam {params : Arguments} {scope : Scope} {body : Expr} {N ps fr : List Str} {js : List Nat} {k : Nat} {fe : Ev → Rs AV} (S : NdefX.NScope N ps fr scope) (hb : ∀ (q : Str) (cl : List (Str × Addr)) (pm cv ctv : Value) (us : List Value), us.length = ps.length → bindArgs (PySem.W.kla_fn "<lambda>" q params body scope cl pm cv ctv) ⟨us, []⟩ = pure (ps.zip us))
    (hfree : ∀ y ∈ scope.names, y.2 = .free → X.env.scope.names.lookup y.1 = some .cell ∨ X.env.scope.names.lookup y.1 = some .free) (hfr : ∀ y ∈ fr, (y, NameKind.free) ∈ scope.names) (hjs : js.map (fun j => X.N[j]?) = fr.map some)
    (hbody : ∀ (Fn : NdefX.NF) (f : Addr) (A : Around) (outer : List Env) (s : Shared) (H : Hp) (zs : List V) (E : XK), Fn.scope = scope → Room k (A.deeper (NdefX.envF Fn f s.heap.objs.size)) → DO (NdefX.ncx (L2.CX X.prog X.w) X.prog X.w X.K X.mg X.base N Fn f A outer s H E) ⟨⟨X.K, X.mg⟩, L2.start N zs, fun cls d _ H => E cls d H⟩ body fe) :
    FSpec X (k + 1) (lamP X params scope body) (ps.length, js, runF N.length (retS fe)) := by
  rintro f Fn b ⟨rfl, c', rfl⟩
  have lj : js.length = fr.length := by
    have := congrArg List.length hjs
    rw [List.length_map, List.length_map] at this
    exact this
  refine ⟨fr, fun ok => NdefX.Caps.made ok hfree hfr hjs, fun ws hw => ?_⟩
  have hw : ws.length = js.length := hw
  have q := fnv_lam (P := X.prog) (w := X.w) (K := X.K) (mg := X.mg) (base := X.base) (F := lamF X params scope c') (f := f) (ws := ws) (k := k) (b := body) (fe := fe) rfl S (fun pm ctv us hu => hb _ _ _ _ _ us hu) (by omega) fun A outer s H vs E hr => hbody _ f A outer s H (vs ++ ws) E rfl hr
  rw [← show ws.length = fr.length by omega] at q
  exact q
theorem fspec_def {st : Stmt} {name : Str} {f0 c' : Addr} {N ps fr : List Str} {js : List Nat} {k : Nat} {d : Ev → Out} (S : NdefX.NScope N ps fr (C8.fnScope st)) (hb : ∀ (Fn : NdefX.NF) (doc pm ctv : Value) (us : List Value), Fn.params = C8.fnArgs st → us.length = ps.length → bindArgs (Fn.fd doc pm ctv) ⟨us, []⟩ = pure (ps.zip us))
    (hfree : ∀ y ∈ (C8.fnScope st).names, y.2 = .free → X.env.scope.names.lookup y.1 = some .cell ∨ X.env.scope.names.lookup y.1 = some .free) (hfr : ∀ y ∈ fr, (y, NameKind.free) ∈ (C8.fnScope st).names) (hjs : js.map (fun j => X.N[j]?) = fr.map some)
    (hbody : ∀ (Fn : NdefX.NF) (f : Addr) (A : Around) (outer : List Env) (s : Shared) (H : Hp) (zs : List V) (E : XK), Fn.scope = C8.fnScope st → Room k (A.deeper (NdefX.envF Fn f s.heap.objs.size)) → DSs (NdefX.ncx (L2.CX X.prog X.w) X.prog X.w X.K X.mg X.base N Fn f A outer s H E) ⟨⟨X.K, X.mg⟩, L2.start N zs, fun cls d _ H => E cls d H⟩ (C8.fnBody st) d) :
    FSpec X (k + 1) (nameP f0 (nfOf X st name c')) (ps.length, js, runF N.length d) := by
  rintro f Fn b ⟨rfl, rfl, rfl⟩
  have lj : js.length = fr.length := by
    have := congrArg List.length hjs
    rw [List.length_map, List.length_map] at this
    exact this
  refine ⟨fr, fun ok => NdefX.Caps.made ok hfree hfr hjs, fun ws hw => ?_⟩
  have hw : ws.length = js.length := hw
  have q := fnv_def (P := X.prog) (w := X.w) (K := X.K) (mg := X.mg) (base := X.base) (F := nfOf X st name c') (f := f) (ws := ws) (k := k) (d := d) S (fun doc pm ctv us hu => hb _ _ _ _ us rfl hu) (by omega) fun A outer s H vs E hr => hbody _ f A outer s H (vs ++ ws) E rfl hr
  rw [← show ws.length = fr.length by omega] at q
  exact q
end
end Nv
-- N104
namespace Nv
open PySem PySem.Spec PyProof.Rows L2
open Evl (Ex)
open He (ga ma frG asG)
section
variable {P : Program} {w : World} {K : PySem.W.Frag} {mg : Str → Option Value} {base : Heap} {N : List Str} {A : Around} {outer : List Env} {s : Shared} {H : Hp} {E : XK} {f : Addr} {Fn : NdefX.NF}
theorem tk_ncx : Takes (NdefX.ncx (L2.CX P w) P w K mg base N Fn f A outer s H E) (fun cls d _ H => E cls d H) := takes_of rfl rfl rfl rfl
/-- a def that makes functions -/
theorem fn_defL {x qual : Str} {st : Stmt} {f cd : Addr} {fd : FuncData} {ps : List Str} {k : Nat} {g : Ev → Out} (F : Fun K x qual st f fd) (hc : fd.code = .ref cd) (S : FnScope N ps (defScope st))
    (hbody : ∀ (A : Around) (outer : List Env) (s : Shared) (H : Hp) (vs : List V) (E : XK), Room k (A.deeper (envOfC qual (defScope st) s.heap.objs.size f (.ref cd))) →
      DSs (cxOf (L2.CX P w) P w K mg base N qual (defScope st) f (.ref cd) A outer s H E) ⟨⟨K, mg⟩, L2.start N vs, fun cls d _ H => E cls d H⟩ (defBody st) g) : FnOk P w K mg base (L2.CX P w) (k + 1) f fd ps (spD ⟨K, mg⟩ ps.length (runF N.length g)) := by
  obtain ⟨oc, od, kV, doc, pm, an, cdv, ct, osl, rfl, lk, hcd⟩ := F.ex
  have hc : cdv = .ref cd := hc
  subst hc
  exact fn_of lk hcd S (fun vs H Q E h => h.1) fun A outer s H vs Q E hr hsp => ⟨_, hbody A outer s H vs E hr, spD_tS hsp⟩
end
theorem ghF_by {N : List Str} {sc : Scope} {g : Nat} (h : ((N.drop g).all fun y => (sc.names.lookup y).isNone) = true) : ∀ (i : Nat) (y : Str), g ≤ i → N[i]? = some y → ¬ Vis sc y := fun i y h1 h3 v => by
  have m : y ∈ N.drop g := by
    refine List.mem_of_getElem? (i := i - g) ?_
    rw [List.getElem?_drop, show g + (i - g) = i by omega]
    exact h3
  have q := List.all_eq_true.mp h y m
  rcases v with v | v | v <;> rw [v] at q <;> cases q
section
variable {X : Cx} {c : Cf} {x : Str} {p pos : Pos} {e : Expr} {es : List Expr} {fas : List FA} {as : Ev → Rs (List OV)} {k k' off i j : Nat}
theorem do_bad {e : Expr} {f : Ev → Rs AV} (h : ∀ Γ, f Γ = .bad) : DO X c e f := ⟨fun pins s σ H Q I ⟨F, Γ, r, q⟩ => by rw [h] at q; exact q.elim⟩
theorem do_callW (fit : Fits fas) (hA : ∀ a ∈ fas, a.At X.prog X.w X.K X.mg X.base k X.s_0 X.H_0) (hex : X.ex = []) (hk : k ≤ k') (hr : Room k' X.A) (tk : Takes X c.W) (hM : c.M = ⟨X.K, X.mg⟩) (hN : X.N[i]? = some x) (hv : Vis X.env.scope x) (hes : DA X c (e :: es) as)
    (hd : (x == ("__debug__" : Str)) = false := by decide) (hcd : (x == ("__classdict__" : Str)) = false := by decide)
    (he : starEach (e :: es) X.env = (false, eval e X.env) :: starEach es X.env := by rfl) (hpl : (backTo pos (starEach es X.env)).any (·.1) = false := by rfl) : DO X c (.Call (.Name x p) (e :: es) [] pos) (callV off i j fas as) := by
  cases ha : fas[j]? with
  | none => exact do_bad fun Γ => by unfold callV; rw [ha]
  | some a => exact do_callV ha (fit a (List.mem_of_getElem? ha)) (hA a (List.mem_of_getElem? ha)) hex hk hr tk hM hN hv hes hd hcd he hpl
end
theorem fss_nil {X : Cx} {k : Nat} : FSpecs X k [] [] := trivial
theorem fss_cons {X : Cx} {k : Nat} {Pq : FnP} {q : Sp3} {Ps : List FnP} {qs : List Sp3} (h : FSpec X k Pq q) (t : FSpecs X k Ps qs) : FSpecs X k (Pq :: Ps) (q :: qs) := ⟨h, t⟩
theorem hu65 {A : Around} {k : Nat} (hr : Room k A) : A.units + 65 < cLine := by have := hr.un; omega
theorem hu01 {A : Around} {k : Nat} (hr : Room k A) : A.units + 1 < cLine := by have := hr.un; omega
section
variable {X : Cx} {c : Cf} {a b d : Expr} {pos : Pos} {ta tb tA : TT}
theorem pt_ifExp (hc : PT X d tA) (ha : PT X a ta) (hb : PT X b tb) : PT X (.IfExp d a b pos) (fun σ H Q => tA σ H fun c H1 => if c = true then ta σ H1 Q else tb σ H1 Q) := by
  refine ⟨fun pins s σ H Q I h => ?_⟩
  refine isTrue_IfExp (thn (hc.run pins s σ H _ I h) fun d s1 ⟨H1, I1, q1⟩ => ?_)
  cases d with
  | true => exact ha.run pins s1 σ H1 Q I1 q1
  | false => exact hb.run pins s1 σ H1 Q I1 q1
def ifT (t u v : Ev → Rs Bool) : Ev → Rs Bool := fun Γ => (t Γ).bind fun k Γ => if k = true then u Γ else v Γ
theorem dt_if {t u v : Ev → Rs Bool} (h : DT X c d t) (h1 : DT X c a u) (h2 : DT X c b v) : DT X c (.IfExp d a b pos) (ifT t u v) := PT.of (pt_ifExp h h1 h2) fun σ H Q ⟨F, Γ, r, q⟩ => ⟨F, Γ, r, (Po.bind (R := vrT) q).imp fun v H' ⟨F', Γ', k, r1, e1, a1, q1⟩ => by
  have a2 : v = k := a1
  subst a2
  cases v with
  | true => rw [if_pos rfl] at q1 ⊢; exact ⟨F', Γ', r1, Po.shift sh_T e1 q1⟩
  | false => rw [if_neg (by decide)] at q1 ⊢; exact ⟨F', Γ', r1, Po.shift sh_T e1 q1⟩⟩
end
def frB (sc out : Scope) : Bool := sc.names.all fun y => !decide (y.2 = .free) || decide (out.names.lookup y.1 = some .cell ∨ out.names.lookup y.1 = some .free)
theorem fr_by {sc out : Scope} (h : frB sc out = true) : ∀ y ∈ sc.names, y.2 = .free → out.names.lookup y.1 = some .cell ∨ out.names.lookup y.1 = some .free := fun y hy e => by
  have q := List.all_eq_true.mp h y hy
  rw [e] at q
  simpa using q
def emptyT : Option Obj → Bool
  | some ⟨.none, .none, .fields vs, sl⟩ => vs.toList.isEmpty && sl.toList.isEmpty
  | _ => false
theorem emptyT_ok {o : Option Obj} (h : emptyT o = true) : o = some { cls := .none, data := .fields #[] } := by
  unfold emptyT at h
  split at h
  · rename_i vs sl
    rw [Bool.and_eq_true] at h
    obtain ⟨h1, h2⟩ := h
    have e1 : vs = #[] := by
      obtain ⟨l⟩ := vs
      cases l with
      | nil => rfl
      | cons _ _ => cases h1
    have e2 : sl = #[] := by
      obtain ⟨l⟩ := sl
      cases l with
      | nil => rfl
      | cons _ _ => cases h2
    rw [e1, e2]
  · cases h
def hkT (as : (Addr → Option Obj) → List Addr) (fa : Fr → List Bool) (fn : Fr → List FV) (val : List FV) (tb : List Addr) : PySem.W.Hook where
  α := AlH
  obs := fun s => ((fa (frG s.heap.get? (as s.heap.get?))).all id && tb.all fun a => emptyT (s.heap.get? a), fn (frG s.heap.get? (as s.heap.get?)))
  val := fun _ => (true, val)
  says := fun _ h => ∃ K : Fr, K.In h ∧ (fa K).all id = true ∧ fn K = val ∧ ∀ a ∈ tb, h.get? a = some { cls := .none, data := .fields #[] }
  of := fun _ _ e => by
    have e1 := congrArg Prod.fst e
    dsimp only at e1
    rw [Bool.and_eq_true] at e1
    exact ⟨_, He.frG_in, e1.1, congrArg Prod.snd e, fun a ha => emptyT_ok (List.all_eq_true.mp e1.2 a ha)⟩
  keeps := fun _ _ _ ⟨K, hK, c, d, t⟩ k => ⟨K, PySem.W.Frag.In.keeps hK k, c, d, fun a ha => k _ _ (t a ha)⟩
def obT (as : (Addr → Option Obj) → List Addr) (fa : Fr → List Bool) (fn : Fr → List FV) (tb : List Addr) (s : PySem.W.SharedT) : AlH :=
  (fun K : Fr => ((fa K).all id && tb.all fun a => emptyT (HandSHeadRun.getT s a), fn K)) (frG (HandSHeadRun.getT s) (as (HandSHeadRun.getT s)))
theorem obT_eq {as : (Addr → Option Obj) → List Addr} {fa : Fr → List Bool} {fn : Fr → List FV} {val : List FV} {tb : List Addr} (s : PySem.W.SharedT) : obT as fa fn tb s = (hkT as fa fn val tb).obs s.abs := by
  have e : HandSHeadRun.getT s = s.abs.heap.get? := funext (HandSHeadRun.getT_eq s)
  unfold obT
  rw [e]
  rfl
/-- a def whose code object is wanted -/
def fnC (K : Fr) (f : Addr) (q : Str) (P : Addr) : Bool := match fdAt K f with
  | some fd => (match fd.closure, fd.defaults, fd.code with
    | [], .none, .ref c => PySem.W.codeIn K (.ref c) q && PySem.W.codeHdIn K c P && decide (c = cdAt K f)
    | _, _, _ => false)
  | none => false
theorem fn_getC {K : Fr} {f P : Addr} {name qual : Str} {st : Stmt} (h : fvAt K f = fvOf name qual st) (b : fnC K f qual P = true) :
    ∃ (oc : Value) (od : Option Addr) (sl : Array (Option Value)) (kV dc pm : Value) (an : Option Addr) (ct : Value), K.lookup f = some ⟨oc, od, .func (PySem.W.fnOf name qual (defArgs st) (defBody st) (defScope st) .none kV dc pm an (.ref (cdAt K f)) ct), sl⟩ ∧ PySem.W.codeIn K (.ref (cdAt K f)) qual = true := by
  obtain ⟨cl, dV, kV, doc, pm, an, cdv, ct, e⟩ := fv_ok h
  obtain ⟨oc, od, sl, lk⟩ := fd_lk e
  unfold fnC at b
  rw [e] at b
  dsimp only at b
  split at b
  · rename_i c
    rw [Bool.and_eq_true, Bool.and_eq_true] at b
    obtain ⟨⟨b1, _⟩, b3⟩ := b
    have b3 := of_decide_eq_true b3
    rw [b3] at lk b1
    exact ⟨oc, od, sl, kV, doc, pm, an, ct, lk, b1⟩
  · cases b
theorem fn_hd {K : Fr} {f P : Addr} {q : Str} (b : fnC K f q P = true) : PySem.W.codeHdIn K (cdAt K f) P = true := by
  unfold fnC at b
  split at b
  · split at b
    · rename_i c _ _ _
      rw [Bool.and_eq_true, Bool.and_eq_true] at b
      obtain ⟨⟨_, b2⟩, b3⟩ := b
      rw [← of_decide_eq_true b3]
      exact b2
    · cases b
  · cases b
end Nv
-- N105
namespace Nv
open PySem PySem.Spec PyProof.Rows L2
def kIfT (u v : Ev → Rs Bool) (k : Bool) (Γ : Ev) : Rs Bool := if k = true then u Γ else v Γ
theorem kIfT_ap {u v : Ev → Rs Bool} {k : Bool} {Γ : Ev} : kIfT u v k Γ = if k = true then u Γ else v Γ := rfl
theorem ifT_ap2 {t u v : Ev → Rs Bool} {Γ : Ev} : ifT t u v Γ = (t Γ).bind (kIfT u v) := rfl
section
variable {a0 a1 : FA} {s0 s1 s4 s5 s6 s7 s8 : Slot} {T : Ev} {off : Nat} {as : Ev → Rs (List OV)}
theorem cv_ap0 : callV off 2 0 [a0, a1] as (s0 :: s1 :: a0.fn :: a1.fn :: T) = (as (s0 :: s1 :: a0.fn :: a1.fn :: T)).bind (callV1 off 2 a0) := by
  unfold callV
  exact if_pos rfl
theorem cv_ap1 : callV off 3 1 [a0, a1] as (s0 :: s1 :: a0.fn :: a1.fn :: T) = (as (s0 :: s1 :: a0.fn :: a1.fn :: T)).bind (callV1 off 3 a1) := by
  unfold callV
  exact if_pos rfl
theorem exs_l {a : FA} (h : a.ws.length = a.ds.length) : a.exs.length = a.ds.length := by
  unfold FA.exs
  rw [List.length_zipWith, h, Nat.min_self]
theorem cv1_0 (h : a0.ws.length = a0.ds.length) (hn : a0.n = 2) {x y : D} {R : Ev} : callV1 (offA 9 [a0, a1] 0) 2 a0 [.dat x, .dat y] (s0 :: s1 :: a0.fn :: a1.fn :: s4 :: s5 :: s6 :: s7 :: s8 :: (a0.exs ++ R)) =
    resV (a0.G ([AV.dat x, .dat y] ++ a0.ds.map .dat)) (s0 :: s1 :: a0.fn :: a1.fn :: s4 :: s5 :: s6 :: s7 :: s8 :: (a0.exs ++ R)) := by
  unfold callV1
  have e : dats [OV.dat x, .dat y] = some [x, y] := rfl
  rw [e]
  dsimp only
  rw [if_pos]
  · rfl
  · refine ⟨hn.symm, rfl, ?_⟩
    show (a0.exs ++ R).take a0.ds.length = a0.exs
    rw [← exs_l h, List.take_left']
    rfl
theorem cv1_1 (h0 : a0.ws.length = a0.ds.length) (h : a1.ws.length = a1.ds.length) (hn : a1.n = 1) {x : D} {R : Ev} : callV1 (offA 9 [a0, a1] 1) 3 a1 [.dat x] (s0 :: s1 :: a0.fn :: a1.fn :: s4 :: s5 :: s6 :: s7 :: s8 :: (a0.exs ++ (a1.exs ++ R))) =
    resV (a1.G ([AV.dat x] ++ a1.ds.map .dat)) (s0 :: s1 :: a0.fn :: a1.fn :: s4 :: s5 :: s6 :: s7 :: s8 :: (a0.exs ++ (a1.exs ++ R))) := by
  unfold callV1
  have e : dats [OV.dat x] = some [x] := rfl
  rw [e]
  dsimp only
  rw [if_pos]
  · rfl
  · refine ⟨hn.symm, rfl, ?_⟩
    have eo : offA 9 [a0, a1] 1 = 9 + a0.exs.length := by
      show 9 + (([a0] : List FA).flatMap FA.exs).length = _
      rw [List.flatMap_cons, List.flatMap_nil, List.append_nil]
    rw [eo, ← List.drop_drop]
    show ((a0.exs ++ (a1.exs ++ R)).drop a0.exs.length).take a1.ds.length = a1.exs
    rw [List.drop_left', ← exs_l h, List.take_left'] <;> rfl
end
end Nv
-- the run
namespace K13
open PySem PySem.Spec PyProof.Rows L2 Nv
def top (i : Nat) : Stmt := PySem.Challenge.pw_nevermiss_k13_first_texts.main.body.getD i (.Pass ⟨0, 0, 0, 0⟩)
abbrev s__law_pen : Stmt := top 34
abbrev s__law_draw : Stmt := top 35
abbrev s__law_signs : Stmt := top 37
abbrev s__law_pick : Stmt := top 36
abbrev s__law_keys : Stmt := top 38
abbrev s__law_tables : Stmt := top 39
abbrev s_check_rows : Stmt := top 19
abbrev s_ascending : Stmt := top 14
abbrev s_keys_in : Stmt := top 20
abbrev s_Machine_init_v1 : Stmt := inClass (top 18) 0
abbrev s_way_of : Stmt := top 30
abbrev s_first_text : Stmt := top 29
abbrev s_silent : Stmt := top 32
abbrev s__law_has : Stmt := top 42
abbrev s__law_first : Stmt := top 43
abbrev s__law_texts : Stmt := top 41
abbrev s__law_read_v2 : Stmt := top 40
abbrev s__law_are_first : Stmt := top 44
abbrev s_giving : Stmt := top 31
abbrev s_law_v24 : Stmt := top 45
abbrev s_EBadMachine : Stmt := inClass (top 4) 0
abbrev s_ETooMany : Stmt := inClass (top 5) 0
abbrev RW : PySem.W.OpenRow := PySem.W.OpenLaw.row PySem.Challenge.rw_nevermiss_k13_first_texts
abbrev qv : Program := PySem.W.view RW.prog [45]
def names0 : List Str := [("_wall" : Str), ("__name__" : Str), ("MissError" : Str), ("BadText" : Str), ("BadMachine" : Str), ("TooMany" : Str), ("LETTERS" : Str), ("DIGITS" : Str), ("MOST_SIGNS" : Str), ("MOST_LETTERS" : Str), ("is_made_of" : Str), ("is_signs" : Str), ("is_key" : Str), ("ascending" : Str), ("MOST_STATES" : Str), ("MOST_KEYS" : Str), ("Machine" : Str), ("check_rows" : Str), ("keys_in" : Str), ("way_text" : Str)]
def names1 : List Str := [("machine_text" : Str), ("read_number" : Str), ("are_keys" : Str), ("read_way" : Str), ("read_state" : Str), ("read_machine" : Str), ("first_text" : Str), ("way_of" : Str), ("giving" : Str), ("silent" : Str), ("_law_pen" : Str), ("_law_draw" : Str), ("_law_pick" : Str), ("_law_signs" : Str), ("_law_keys" : Str), ("_law_tables" : Str), ("_law_read" : Str), ("_law_texts" : Str), ("_law_has" : Str), ("_law_first" : Str)]
def names2 : List Str := [("_law_are_first" : Str)]
def names : List Str := names0 ++ names1 ++ names2
def fa0 (K : Fr) : List Bool := [fnB K (He.ga K ("_law_pen" : Str)) ("_law_pen" : Str),
  fnB K (He.ga K ("_law_draw" : Str)) ("_law_draw" : Str),
  fnB K (He.ga K ("_law_signs" : Str)) ("_law_signs" : Str),
  fnB K (He.ga K ("_law_pick" : Str)) ("_law_pick" : Str),
  fnB K (He.ga K ("_law_keys" : Str)) ("_law_keys" : Str),
  fnB K (He.ga K ("_law_tables" : Str)) ("_law_tables" : Str),
  fnB K (He.ga K ("check_rows" : Str)) ("check_rows" : Str),
  fnB K (He.ga K ("ascending" : Str)) ("ascending" : Str),
  fnB K (He.ga K ("keys_in" : Str)) ("keys_in" : Str),
  fnB K (He.ma K (He.ga K ("Machine" : Str)) ("__init__" : Str)) ("Machine.__init__" : Str),
  fnB K (He.ga K ("way_of" : Str)) ("way_of" : Str),
  fnB K (He.ga K ("first_text" : Str)) ("first_text" : Str),
  fnC K (He.ga K ("silent" : Str)) ("silent" : Str) tPsilent,
  (K.lookup tPsilent).isNone,
  fnB K (He.ga K ("_law_has" : Str)) ("_law_has" : Str),
  fnB K (He.ga K ("_law_first" : Str)) ("_law_first" : Str),
  fnB K (He.ga K ("_law_texts" : Str)) ("_law_texts" : Str),
  fnB K (He.ga K ("_law_read" : Str)) ("_law_read" : Str),
  fnB K (He.ga K ("_law_are_first" : Str)) ("_law_are_first" : Str),
  fnC K (He.ga K ("giving" : Str)) ("giving" : Str) tPgiving]
def fa1 (K : Fr) : List Bool := [(K.lookup tPgiving).isNone,
  fnB K (He.ga K ("law" : Str)) ("law" : Str),
  fnE K (He.ma K (He.ga K ("BadMachine" : Str)) "__init__") (He.ga K ("BadMachine" : Str)) ("BadMachine.__init__" : Str) PySem.Challenge.rw_nevermiss_k13_first_texts.prog.main.file,
  exB K (He.ga K ("BadMachine" : Str)),
  clB K (He.ga K ("BadMachine" : Str)),
  fnE K (He.ma K (He.ga K ("TooMany" : Str)) "__init__") (He.ga K ("TooMany" : Str)) ("TooMany.__init__" : Str) PySem.Challenge.rw_nevermiss_k13_first_texts.prog.main.file,
  exB K (He.ga K ("TooMany" : Str)),
  clB K (He.ga K ("TooMany" : Str)),
  intB K ("MOST_KEYS" : Str) (12),
  decide (PySem.W.nsIn K mainGlobals "Machine" = some (some (.ref (He.ga K ("Machine" : Str))))),
  decide (PySem.W.nsIn K mainGlobals "Edits" = some none),
  decide (PySem.W.nsIn K mainGlobals "Reading" = some none),
  decide (PySem.W.nsIn K mainGlobals "Rule" = some none),
  decide (PySem.W.nsIn K mainGlobals "Table" = some none),
  decide (PySem.W.nsIn K mainGlobals "enumerate" = some none),
  decide (PySem.W.nsIn K mainGlobals "int" = some none),
  decide (PySem.W.nsIn K mainGlobals "len" = some none),
  decide (PySem.W.nsIn K mainGlobals "list" = some none),
  decide (PySem.W.nsIn K mainGlobals "min" = some none),
  decide (PySem.W.nsIn K mainGlobals "range" = some none)]
def fa2 (K : Fr) : List Bool := [decide (PySem.W.nsIn K mainGlobals "set" = some none),
  decide (PySem.W.nsIn K mainGlobals "sorted" = some none),
  decide (PySem.W.nsIn K mainGlobals "str" = some none),
  decide (PySem.W.nsIn K mainGlobals "tuple" = some none),
  decide (PySem.W.nsIn K mainGlobals "_law_pen" = some (some (.ref (He.ga K ("_law_pen" : Str))))),
  PySem.W.keepIn K (.ref (He.ga K ("_law_pen" : Str))),
  decide (PySem.W.nsIn K mainGlobals "_law_draw" = some (some (.ref (He.ga K ("_law_draw" : Str))))),
  PySem.W.keepIn K (.ref (He.ga K ("_law_draw" : Str))),
  decide (PySem.W.nsIn K mainGlobals "_law_signs" = some (some (.ref (He.ga K ("_law_signs" : Str))))),
  PySem.W.keepIn K (.ref (He.ga K ("_law_signs" : Str))),
  decide (PySem.W.nsIn K mainGlobals "_law_pick" = some (some (.ref (He.ga K ("_law_pick" : Str))))),
  PySem.W.keepIn K (.ref (He.ga K ("_law_pick" : Str))),
  decide (PySem.W.nsIn K mainGlobals "_law_keys" = some (some (.ref (He.ga K ("_law_keys" : Str))))),
  PySem.W.keepIn K (.ref (He.ga K ("_law_keys" : Str))),
  decide (PySem.W.nsIn K mainGlobals "_law_tables" = some (some (.ref (He.ga K ("_law_tables" : Str))))),
  PySem.W.keepIn K (.ref (He.ga K ("_law_tables" : Str))),
  decide (PySem.W.nsIn K mainGlobals "check_rows" = some (some (.ref (He.ga K ("check_rows" : Str))))),
  PySem.W.keepIn K (.ref (He.ga K ("check_rows" : Str))),
  decide (PySem.W.nsIn K mainGlobals "ascending" = some (some (.ref (He.ga K ("ascending" : Str))))),
  PySem.W.keepIn K (.ref (He.ga K ("ascending" : Str)))]
def fa3 (K : Fr) : List Bool := [decide (PySem.W.nsIn K mainGlobals "keys_in" = some (some (.ref (He.ga K ("keys_in" : Str))))),
  PySem.W.keepIn K (.ref (He.ga K ("keys_in" : Str))),
  decide (PySem.W.findIn K (.ref (He.ga K ("Machine" : Str))) "__init__" = some (some (.ref (He.ma K (He.ga K ("Machine" : Str)) ("__init__" : Str))))),
  PySem.W.isFn K (.ref (He.ma K (He.ga K ("Machine" : Str)) ("__init__" : Str))),
  PySem.W.keepIn K (.ref (He.ma K (He.ga K ("Machine" : Str)) ("__init__" : Str))),
  decide (PySem.W.nsIn K mainGlobals "way_of" = some (some (.ref (He.ga K ("way_of" : Str))))),
  PySem.W.keepIn K (.ref (He.ga K ("way_of" : Str))),
  decide (PySem.W.nsIn K mainGlobals "first_text" = some (some (.ref (He.ga K ("first_text" : Str))))),
  PySem.W.keepIn K (.ref (He.ga K ("first_text" : Str))),
  decide (PySem.W.nsIn K mainGlobals "silent" = some (some (.ref (He.ga K ("silent" : Str))))),
  PySem.W.keepIn K (.ref (He.ga K ("silent" : Str))),
  decide (PySem.W.nsIn K mainGlobals "_law_has" = some (some (.ref (He.ga K ("_law_has" : Str))))),
  PySem.W.keepIn K (.ref (He.ga K ("_law_has" : Str))),
  decide (PySem.W.nsIn K mainGlobals "_law_first" = some (some (.ref (He.ga K ("_law_first" : Str))))),
  PySem.W.keepIn K (.ref (He.ga K ("_law_first" : Str))),
  decide (PySem.W.nsIn K mainGlobals "_law_texts" = some (some (.ref (He.ga K ("_law_texts" : Str))))),
  PySem.W.keepIn K (.ref (He.ga K ("_law_texts" : Str))),
  decide (PySem.W.nsIn K mainGlobals "_law_read" = some (some (.ref (He.ga K ("_law_read" : Str))))),
  PySem.W.keepIn K (.ref (He.ga K ("_law_read" : Str))),
  decide (PySem.W.nsIn K mainGlobals "_law_are_first" = some (some (.ref (He.ga K ("_law_are_first" : Str)))))]
def fa4 (K : Fr) : List Bool := [PySem.W.keepIn K (.ref (He.ga K ("_law_are_first" : Str))),
  decide (PySem.W.nsIn K mainGlobals "giving" = some (some (.ref (He.ga K ("giving" : Str))))),
  PySem.W.keepIn K (.ref (He.ga K ("giving" : Str))),
  decide (PySem.W.nsIn K mainGlobals "law" = some (some (.ref (He.ga K ("law" : Str))))),
  PySem.W.keepIn K (.ref (He.ga K ("law" : Str))),
  decide (PySem.W.nsIn K mainGlobals "BadMachine" = some (some (.ref (He.ga K ("BadMachine" : Str))))),
  decide (PySem.W.nsIn K mainGlobals "TooMany" = some (some (.ref (He.ga K ("TooMany" : Str))))),
  decide (PySem.W.findIn K (.ref (He.ga K ("BadMachine" : Str))) "__setattr__" = some (some (.builtin "object.__setattr__"))),
  decide (PySem.W.findIn K (.ref (He.ga K ("BadMachine" : Str))) "__getattribute__" = some (some (.builtin "BaseException.__getattribute__"))),
  decide (PySem.W.findIn K (.ref (He.ga K ("BadMachine" : Str))) "__getattr__" = some none),
  decide (PySem.W.findIn K (.ref (He.ga K ("BadMachine" : Str))) "__class__" = some (some (.builtin "object.__class__"))),
  decide (PySem.W.findIn K (.ref (He.ga K ("BadMachine" : Str))) "__init__" = some (some (.ref (He.ma K (He.ga K ("BadMachine" : Str)) "__init__")))),
  decide (PySem.W.typeIn K (.ref (He.ga K ("BadMachine" : Str))) = some (.type "type")),
  PySem.W.keepIn K (.ref (He.ga K ("BadMachine" : Str))),
  PySem.W.hasDictIn K (He.ga K ("BadMachine" : Str)),
  decide (PySem.W.subIn K (.ref (He.ga K ("BadMachine" : Str))) (.type "BaseException") = some true),
  decide (PySem.W.subIn K (.ref (He.ga K ("BadMachine" : Str))) (.type "ValueError") = some true),
  decide (PySem.W.mroIn K (He.ga K ("BadMachine" : Str)) (.type "object") = some true),
  decide (PySem.W.mroIn K (He.ga K ("BadMachine" : Str)) (.ref (He.ga K ("BadMachine" : Str))) = some true),
  decide (PySem.W.typeIn K (.ref (He.ma K (He.ga K ("BadMachine" : Str)) "__init__")) = some (.type "function"))]
def fa5 (K : Fr) : List Bool := [decide (PySem.W.ks_superIn K (He.ga K ("BadMachine" : Str)) (He.ga K ("BadMachine" : Str)) "__init__" = some (some (.builtin "ValueError.__init__"))),
  decide (PySem.W.findIn K (.ref (He.ga K ("BadMachine" : Str))) "state" = some none),
  decide (PySem.W.findIn K (.ref (He.ga K ("BadMachine" : Str))) "place" = some none),
  decide (PySem.W.findIn K (.ref (He.ga K ("TooMany" : Str))) "__setattr__" = some (some (.builtin "object.__setattr__"))),
  decide (PySem.W.findIn K (.ref (He.ga K ("TooMany" : Str))) "__getattribute__" = some (some (.builtin "BaseException.__getattribute__"))),
  decide (PySem.W.findIn K (.ref (He.ga K ("TooMany" : Str))) "__getattr__" = some none),
  decide (PySem.W.findIn K (.ref (He.ga K ("TooMany" : Str))) "__class__" = some (some (.builtin "object.__class__"))),
  decide (PySem.W.findIn K (.ref (He.ga K ("TooMany" : Str))) "__init__" = some (some (.ref (He.ma K (He.ga K ("TooMany" : Str)) "__init__")))),
  decide (PySem.W.typeIn K (.ref (He.ga K ("TooMany" : Str))) = some (.type "type")),
  PySem.W.keepIn K (.ref (He.ga K ("TooMany" : Str))),
  PySem.W.hasDictIn K (He.ga K ("TooMany" : Str)),
  decide (PySem.W.subIn K (.ref (He.ga K ("TooMany" : Str))) (.type "BaseException") = some true),
  decide (PySem.W.subIn K (.ref (He.ga K ("TooMany" : Str))) (.type "ValueError") = some true),
  decide (PySem.W.mroIn K (He.ga K ("TooMany" : Str)) (.type "object") = some true),
  decide (PySem.W.mroIn K (He.ga K ("TooMany" : Str)) (.ref (He.ga K ("TooMany" : Str))) = some true),
  decide (PySem.W.typeIn K (.ref (He.ma K (He.ga K ("TooMany" : Str)) "__init__")) = some (.type "function")),
  decide (PySem.W.ks_superIn K (He.ga K ("TooMany" : Str)) (He.ga K ("TooMany" : Str)) "__init__" = some (some (.builtin "ValueError.__init__"))),
  decide (PySem.W.findIn K (.ref (He.ga K ("TooMany" : Str))) "what" = some none),
  decide (PySem.W.subIn K (.ref (He.ga K ("BadMachine" : Str))) (.ref (He.ga K ("BadMachine" : Str))) = some true),
  decide (PySem.W.subIn K (.ref (He.ga K ("TooMany" : Str))) (.ref (He.ga K ("TooMany" : Str))) = some true)]
def fa6 (K : Fr) : List Bool := [decide (PySem.W.nsIn K mainGlobals "super" = some none),
  decide (PySem.W.nsIn K cStatics "thirdparty.any" = some none),
  decide (PySem.W.specialIn K (.builtin "object.__class__") "__get__" = some (some (.builtin "getset_descriptor.__get__"))),
  decide (PySem.W.takesIn K (.builtin "object.__class__") = some true),
  PySem.W.plainGet K (He.ga K ("Machine" : Str)) Str.empty,
  PySem.W.hasDictIn K (He.ga K ("Machine" : Str)),
  PySem.W.plainOver K (He.ga K ("Machine" : Str)),
  decide (PySem.W.findIn K (.ref (He.ga K ("Machine" : Str))) "__setattr__" = some (some (.builtin "object.__setattr__"))),
  PySem.W.makesIn K (He.ga K ("Machine" : Str)),
  PySem.W.keepIn K (.ref (He.ga K ("Machine" : Str))),
  decide (PySem.W.findIn K (.ref (He.ga K ("Machine" : Str))) "all_keys" = some none),
  decide (PySem.W.findIn K (.ref (He.ga K ("Machine" : Str))) "ends" = some none),
  decide (PySem.W.findIn K (.ref (He.ga K ("Machine" : Str))) "rows" = some none),
  decide (PySem.W.findIn K (.ref (He.ga K ("Machine" : Str))) "signs" = some none)]
def fa (K : Fr) : List Bool := [(fa0 K).all id, (fa1 K).all id, (fa2 K).all id, (fa3 K).all id, (fa4 K).all id, (fa5 K).all id, (fa6 K).all id]
def fn0 (K : Fr) : List FV := [fvAt K (He.ga K ("_law_pen" : Str)),
  fvAt K (He.ga K ("_law_draw" : Str)),
  fvAt K (He.ga K ("_law_signs" : Str)),
  fvAt K (He.ga K ("_law_pick" : Str)),
  fvAt K (He.ga K ("_law_keys" : Str)),
  fvAt K (He.ga K ("_law_tables" : Str)),
  fvAt K (He.ga K ("check_rows" : Str)),
  fvAt K (He.ga K ("ascending" : Str)),
  fvAt K (He.ga K ("keys_in" : Str)),
  fvAt K (He.ma K (He.ga K ("Machine" : Str)) ("__init__" : Str)),
  fvAt K (He.ga K ("way_of" : Str)),
  fvAt K (He.ga K ("first_text" : Str)),
  fvAt K (He.ga K ("silent" : Str)),
  fvAt K (He.ga K ("_law_has" : Str)),
  fvAt K (He.ga K ("_law_first" : Str)),
  fvAt K (He.ga K ("_law_texts" : Str)),
  fvAt K (He.ga K ("_law_read" : Str)),
  fvAt K (He.ga K ("_law_are_first" : Str)),
  fvAt K (He.ga K ("giving" : Str)),
  fvAt K (He.ga K ("law" : Str))]
def fn1 (K : Fr) : List FV := [fvAt K (He.ma K (He.ga K ("BadMachine" : Str)) "__init__"),
  fvAt K (He.ma K (He.ga K ("TooMany" : Str)) "__init__")]
def fn (K : Fr) : List FV := fn0 K ++ fn1 K
def vl0 : List FV := [fvOf ("_law_pen" : Str) ("_law_pen" : Str) K13.s__law_pen,
  fvOf ("_law_draw" : Str) ("_law_draw" : Str) K13.s__law_draw,
  fvOf ("_law_signs" : Str) ("_law_signs" : Str) K13.s__law_signs,
  fvOf ("_law_pick" : Str) ("_law_pick" : Str) K13.s__law_pick,
  fvOf ("_law_keys" : Str) ("_law_keys" : Str) K13.s__law_keys,
  fvOf ("_law_tables" : Str) ("_law_tables" : Str) K13.s__law_tables,
  fvOf ("check_rows" : Str) ("check_rows" : Str) K13.s_check_rows,
  fvOf ("ascending" : Str) ("ascending" : Str) K13.s_ascending,
  fvOf ("keys_in" : Str) ("keys_in" : Str) K13.s_keys_in,
  fvOf ("__init__" : Str) ("Machine.__init__" : Str) K13.s_Machine_init_v1,
  fvOf ("way_of" : Str) ("way_of" : Str) K13.s_way_of,
  fvOf ("first_text" : Str) ("first_text" : Str) K13.s_first_text,
  fvOf ("silent" : Str) ("silent" : Str) K13.s_silent,
  fvOf ("_law_has" : Str) ("_law_has" : Str) K13.s__law_has,
  fvOf ("_law_first" : Str) ("_law_first" : Str) K13.s__law_first,
  fvOf ("_law_texts" : Str) ("_law_texts" : Str) K13.s__law_texts,
  fvOf ("_law_read" : Str) ("_law_read" : Str) K13.s__law_read_v2,
  fvOf ("_law_are_first" : Str) ("_law_are_first" : Str) K13.s__law_are_first,
  fvOf ("giving" : Str) ("giving" : Str) K13.s_giving,
  fvOf ("law" : Str) ("law" : Str) K13.s_law_v24]
def vl1 : List FV := [fvOf ("__init__" : Str) ("BadMachine.__init__" : Str) K13.s_EBadMachine,
  fvOf ("__init__" : Str) ("TooMany.__init__" : Str) K13.s_ETooMany]
def vl : List FV := vl0 ++ vl1
abbrev tbs : List Addr := [tPsilent, tPgiving]
abbrev hk : PySem.W.Hook := hkT asM fa fn vl tbs
theorem run (w : World) : HandSHeadRun.RunEq RW qv hk (obT asM fa fn tbs) 20000 names w := by
  intro os
  kernel_rfl
end K13
section
open Nv PySem PySem.Spec PyProof.Rows L2
local macro_rules
  | `(tactic| simp_all! only [$a,*]) => `(tactic| simp -implicitDefEqProofs (disch := first | omega | assumption) only [↓Nv.seqS_ap, ↓Nv.nilS_ap, ↓Nv.setS_ap, ↓Nv.ifS_ap, ↓Nv.exprS_ap, ↓Nv.retS_ap, ↓Nv.retN_ap, ↓Nv.op2_ap, ↓Nv.op1_ap, ↓Nv.opA_ap, ↓Nv.datB_ap, ↓Nv.datO_ap, ↓Nv.cst_ap, ↓Nv.frzE_ap, ↓Nv.nilA_ap, ↓Nv.consA_ap, ↓Nv.tupE_ap, ↓Nv.lstE_ap, ↓Nv.tstE_ap, ↓Nv.andT_ap, ↓Nv.orT_ap, ↓Nv.notT_ap, ↓Nv.yesT_ap, ↓Nv.andO_ap, ↓Nv.orO_ap, ↓Nv.notO_ap, ↓Nv.ifO_ap, ↓Nv.sliceO_ap, ↓Nv.noPart_ap, ↓Nv.partO_ap, ↓Nv.putS_ap, ↓Nv.callO_ap, ↓Nv.asgS_ap, ↓Nv.par2_ap, ↓Nv.par3_ap, ↓Nv.newE_ap, ↓Nv.dispTO_ap, ↓Nv.get1O_ap, ↓Nv.get2O_ap, ↓Nv.mutL_ap, ↓Nv.fldS_ap, ↓Nv.joinO_ap, ↓Nv.fgS_ap, ↓Nv.forS_ap, ↓Nv.bare_ap, ↓Nv.seqI_ap, ↓Nv.enI_ap, ↓Nv.rngI1_ap, ↓Nv.rngI2_ap, ↓Nv.compO_ap, ↓Nv.makeO_ap, ↓Nv.methO_ap, ↓Nv.dispO_ap, ↓Nv.prNil_ap, ↓Nv.prCons_ap, ↓Nv.chainO_ap, ↓Nv.runF_ap, ↓Nv.kStar2_ap, ↓Nv.kStar_ap, ↓Nv.starA_ap, ↓Nv.kM2_ap, ↓Nv.kM1_ap, ↓Nv.mth1O_ap, ↓Nv.kFjs_ap, ↓Nv.fstrO_ap, ↓Nv.raiseS_ap2, ↓Nv.kRaise_ap, ↓Nv.tryS_ap, ↓Nv.compN_ap, ↓Nv.kCompN_ap, ↓Nv.compD_ap, ↓Nv.kCompD_ap, Nv.fjs_nil, Nv.fjs_cons, Nv.tryO_nx, Nv.tryO_rt, Nv.tryO_ex, Nv.endT_rt, Nv.endT_nx, Nv.starR, Nv.datsO, Nv.raiseO, Nv.goT, Nv.putN, Nv.offX, Nv.offN, Nv.isS, Nv.isL, Nv.gXf, Nv.dats_map, Nv.dats_map0, Nv.gStr_S, ↓Nv.kSet_ap, ↓Nv.kIf_ap, ↓Nv.kExpr_ap, ↓Nv.kRet_ap, ↓Nv.kOp2b_ap, ↓Nv.kOp2_ap, ↓Nv.kOp1_ap, ↓Nv.kOpA_ap, ↓Nv.kDatB_ap, ↓Nv.kDatO_ap, ↓Nv.kFrz_ap, ↓Nv.kConsb_ap, ↓Nv.kCons_ap, ↓Nv.kDisp_ap, ↓Nv.kTst_ap, ↓Nv.kAndT_ap, ↓Nv.kOrT_ap, ↓Nv.kNotT_ap, ↓Nv.kAndO_ap, ↓Nv.kOrO_ap, ↓Nv.kNotO_ap, ↓Nv.kIfO_ap, ↓Nv.kSl3_ap, ↓Nv.kSl2_ap, ↓Nv.kSl1_ap, ↓Nv.kPart_ap, ↓Nv.kPut2_ap, ↓Nv.kPut_ap, ↓Nv.kCall_ap, ↓Nv.kAsg_ap, ↓Nv.kPar2b_ap, ↓Nv.kPar2_ap, ↓Nv.kPar3c_ap, ↓Nv.kPar3b_ap, ↓Nv.kPar3_ap, ↓Nv.kDt2_ap, ↓Nv.kDt1_ap, ↓Nv.kGet1b_ap, ↓Nv.kGet1_ap, ↓Nv.kGet2c_ap, ↓Nv.kGet2b_ap, ↓Nv.kGet2_ap, ↓Nv.kMut_ap, ↓Nv.kFld_ap, ↓Nv.kJoin2_ap, ↓Nv.kJoin_ap, ↓Nv.kFor_ap, ↓Nv.kBare_ap, ↓Nv.kSeqI_ap, ↓Nv.kEnI_ap, ↓Nv.kRng1_ap, ↓Nv.kRng2_ap, ↓Nv.kComp_ap, ↓Nv.kMake_ap, ↓Nv.kMeth2_ap, ↓Nv.kMeth_ap, ↓Nv.kDct_ap, ↓Nv.kPr3_ap, ↓Nv.kPr2_ap, ↓Nv.kPr1_ap, ↓Nv.kCh3_ap, ↓Nv.kCh2_ap, ↓Nv.kCh1_ap, Nv.runFin_nx, Nv.runFin_rt, Nv.Out.seq_nx, Nv.Out.seq_rt, Nv.Out.seq_bk, Nv.Out.seq_ct, Nv.setG, Nv.setOk, Nv.slotOf, Nv.optS, Nv.Rs.out_ok, Nv.Rs.bind_ok, Nv.op2R, Nv.op1R, Nv.opR, Nv.gets, Nv.OV.get, Nv.look, Nv.slotB, Nv.nameE, Nv.mvE, Nv.AV.frz, Nv.avd_dat, Nv.avd_own, Nv.od_lst, Nv.od_dct, Nv.od_dtt, Nv.od_ins, Nv.Pn.od, Nv.chain_m, Nv.Rs.out_ex, Nv.Rs.bind_ex, Nv.Out.seq_ex, Nv.dispR, Nv.dats, Nv.g2, Nv.isOwn, Nv.putR, Nv.callR, Nv.argsOf, Nv.argOf, Nv.apartO, Nv.hasO, Nv.FR.back, Nv.backG, Nv.tTup, Nv.tsCons, Nv.tsNil, Nv.tName, Nv.getR, Nv.isDct, Nv.gA1, Nv.gA2, Nv.gI, Nv.okT, Nv.gSub, Nv.gMul, Nv.gMod, Nv.gFdv, Nv.gPow, Nv.gLt, Nv.gLe, Nv.gGt, Nv.gGe, Nv.gI2, Nv.gInt, Nv.gList, Nv.gTuple, Nv.len_lst, Nv.len_tup, Nv.len_fz, Nv.len_S, Nv.isLst, Nv.mutR, Nv.gApp, Nv.gPop0, Nv.gPop1, Nv.gRev, Nv.sl_lst, Nv.sl_fz, Nv.sl_tup, Nv.sl_S, Nv.fldR, Nv.S_length, Nv.cutS_S, Nv.S_app, Nv.chD_S, Nv.ix_S, Nv.gEq_S, Nv.gNe_S, Nv.gEq_int, Nv.gNe_int, Nv.gEq_bl, Nv.gNe_bl, Nv.gIn_S, Nv.gNin_S, Nv.cutL_nn, Nv.cutL_0n, Nv.cutL_n0, Nv.ofs_empty, Nv.sl0, Nv.sl1, Nv.sl2, Nv.sl3, Nv.sl4, Nv.sl5, Nv.sl6, Nv.sl7, Nv.sl8, Nv.add_int, Nv.add_str, Nv.add_lst, Nv.ix_lst, Nv.ix_tup, Nv.ix_fz, Nv.Pn.ix_left, Nv.Pn.ix_at, Nv.Pn.ix_cells, Nv.Pn.put_left, Nv.Pn.put_at, Nv.itemsOV, Nv.itemsOV2, Nv.it_lst, Nv.it_tup, Nv.it_fz, Nv.it_str, Nv.it2_lst, Nv.it2_tup, Nv.it2_fz, Nv.it2_str, Nv.it2_dct, List.getElem?_cons_zero, List.getElem?_cons_succ, List.set_cons_zero, List.set_cons_succ, List.length_cons, List.length_nil, List.length_map, Nv.tagA, Nv.tag1, Nv.outA, Nv.FR.mk, Option.map_some, Option.map_none, Option.bind_some, Option.bind_none, Nv.fgO_nx, Nv.fgO_bk, Nv.fgO_ct, Nv.fgO_rt, Nv.wipeG, Nv.unw, Nv.anchor, List.cons_append, List.nil_append, if_true, if_false, reduceIte, Bool.and_true, Bool.true_and, Bool.not_false, Bool.not_true, decide_true, decide_false, Bool.false_eq_true, decide_eq_true_eq, List.lookup_cons, Int.toNat_natCast, Nat.sub_self, Nat.reduceSub, Nat.reduceAdd, Nat.reduceEqDiff, List.replicate_succ, List.replicate_zero, Nv.sl_eq, Nv.nlt_t, Nv.nlt_f, Nv.nle_t, Nv.nle_f, Nv.neq_t, Nv.neq_f, Nv.ilt_t, Nv.ilt_f, Nv.ile_t, Nv.ile_f, Nv.ieq_t, Nv.ieq_f, Nv.rng_t, Nv.mul_l, Nv.mul_r, Nv.atI_n, Int.natCast_add, Int.cast_ofNat_Int, Int.toNat_natCast_add_one, List.length_append, Option.getD_some, decide_not, Bool.not_eq_true', decide_eq_false_iff_not, and_self, true_and, and_true, false_and, and_false, not_true_eq_false, not_false_eq_true, ne_eq, gt_iff_lt, ge_iff_le, List.map_cons, List.map_nil, List.map_append, Nat.add_sub_cancel_left, Int.zero_add, Int.add_zero, Nat.zero_add, List.getElem?_map, Nv.cut_ii, Nv.cut_0i, Nv.cut_i0, Nv.toNat_add, Int.reduceToNat, Nv.gStr_n, Nv.gFmt_S, Nv.gFmt_n, Nv.revS_S, Nv.gIs, Nv.gIsn, Nv.D.isN, Int.reducePow, Int.reduceAbs, Nat.reducePow, Nat.reduceLT, $a,*])
local macro_rules
  | `(tactic| simp_all?! only [$a,*]) => `(tactic| simp -implicitDefEqProofs only [↓Nv.seqS_ap, ↓Nv.nilS_ap, ↓Nv.setS_ap, ↓Nv.ifS_ap, ↓Nv.exprS_ap, ↓Nv.retS_ap, ↓Nv.retN_ap, ↓Nv.op2_ap, ↓Nv.op1_ap, ↓Nv.opA_ap, ↓Nv.datB_ap, ↓Nv.datO_ap, ↓Nv.cst_ap, ↓Nv.frzE_ap, ↓Nv.nilA_ap, ↓Nv.consA_ap, ↓Nv.tupE_ap, ↓Nv.lstE_ap, ↓Nv.tstE_ap, ↓Nv.andT_ap, ↓Nv.orT_ap, ↓Nv.notT_ap, ↓Nv.yesT_ap, ↓Nv.andO_ap, ↓Nv.orO_ap, ↓Nv.notO_ap, ↓Nv.ifO_ap, ↓Nv.sliceO_ap, ↓Nv.noPart_ap, ↓Nv.partO_ap, ↓Nv.putS_ap, ↓Nv.callO_ap, ↓Nv.asgS_ap, ↓Nv.par2_ap, ↓Nv.par3_ap, ↓Nv.newE_ap, ↓Nv.dispTO_ap, ↓Nv.get1O_ap, ↓Nv.get2O_ap, ↓Nv.mutL_ap, ↓Nv.fldS_ap, ↓Nv.joinO_ap, ↓Nv.fgS_ap, ↓Nv.forS_ap, ↓Nv.bare_ap, ↓Nv.seqI_ap, ↓Nv.enI_ap, ↓Nv.rngI1_ap, ↓Nv.rngI2_ap, ↓Nv.compO_ap, ↓Nv.makeO_ap, ↓Nv.methO_ap, ↓Nv.dispO_ap, ↓Nv.prNil_ap, ↓Nv.prCons_ap, ↓Nv.chainO_ap, ↓Nv.runF_ap, ↓Nv.kStar2_ap, ↓Nv.kStar_ap, ↓Nv.starA_ap, ↓Nv.kM2_ap, ↓Nv.kM1_ap, ↓Nv.mth1O_ap, ↓Nv.kFjs_ap, ↓Nv.fstrO_ap, ↓Nv.raiseS_ap2, ↓Nv.kRaise_ap, ↓Nv.tryS_ap, ↓Nv.compN_ap, ↓Nv.kCompN_ap, ↓Nv.compD_ap, ↓Nv.kCompD_ap, Nv.fjs_nil, Nv.fjs_cons, Nv.tryO_nx, Nv.tryO_rt, Nv.tryO_ex, Nv.endT_rt, Nv.endT_nx, Nv.starR, Nv.datsO, Nv.raiseO, Nv.goT, Nv.putN, Nv.offX, Nv.offN, Nv.isS, Nv.isL, Nv.gXf, Nv.dats_map, Nv.dats_map0, Nv.gStr_S, ↓Nv.kSet_ap, ↓Nv.kIf_ap, ↓Nv.kExpr_ap, ↓Nv.kRet_ap, ↓Nv.kOp2b_ap, ↓Nv.kOp2_ap, ↓Nv.kOp1_ap, ↓Nv.kOpA_ap, ↓Nv.kDatB_ap, ↓Nv.kDatO_ap, ↓Nv.kFrz_ap, ↓Nv.kConsb_ap, ↓Nv.kCons_ap, ↓Nv.kDisp_ap, ↓Nv.kTst_ap, ↓Nv.kAndT_ap, ↓Nv.kOrT_ap, ↓Nv.kNotT_ap, ↓Nv.kAndO_ap, ↓Nv.kOrO_ap, ↓Nv.kNotO_ap, ↓Nv.kIfO_ap, ↓Nv.kSl3_ap, ↓Nv.kSl2_ap, ↓Nv.kSl1_ap, ↓Nv.kPart_ap, ↓Nv.kPut2_ap, ↓Nv.kPut_ap, ↓Nv.kCall_ap, ↓Nv.kAsg_ap, ↓Nv.kPar2b_ap, ↓Nv.kPar2_ap, ↓Nv.kPar3c_ap, ↓Nv.kPar3b_ap, ↓Nv.kPar3_ap, ↓Nv.kDt2_ap, ↓Nv.kDt1_ap, ↓Nv.kGet1b_ap, ↓Nv.kGet1_ap, ↓Nv.kGet2c_ap, ↓Nv.kGet2b_ap, ↓Nv.kGet2_ap, ↓Nv.kMut_ap, ↓Nv.kFld_ap, ↓Nv.kJoin2_ap, ↓Nv.kJoin_ap, ↓Nv.kFor_ap, ↓Nv.kBare_ap, ↓Nv.kSeqI_ap, ↓Nv.kEnI_ap, ↓Nv.kRng1_ap, ↓Nv.kRng2_ap, ↓Nv.kComp_ap, ↓Nv.kMake_ap, ↓Nv.kMeth2_ap, ↓Nv.kMeth_ap, ↓Nv.kDct_ap, ↓Nv.kPr3_ap, ↓Nv.kPr2_ap, ↓Nv.kPr1_ap, ↓Nv.kCh3_ap, ↓Nv.kCh2_ap, ↓Nv.kCh1_ap, Nv.runFin_nx, Nv.runFin_rt, Nv.Out.seq_nx, Nv.Out.seq_rt, Nv.Out.seq_bk, Nv.Out.seq_ct, Nv.setG, Nv.setOk, Nv.slotOf, Nv.optS, Nv.Rs.out_ok, Nv.Rs.bind_ok, Nv.op2R, Nv.op1R, Nv.opR, Nv.gets, Nv.OV.get, Nv.look, Nv.slotB, Nv.nameE, Nv.mvE, Nv.AV.frz, Nv.avd_dat, Nv.avd_own, Nv.od_lst, Nv.od_dct, Nv.od_dtt, Nv.od_ins, Nv.Pn.od, Nv.chain_m, Nv.Rs.out_ex, Nv.Rs.bind_ex, Nv.Out.seq_ex, Nv.dispR, Nv.dats, Nv.g2, Nv.isOwn, Nv.putR, Nv.callR, Nv.argsOf, Nv.argOf, Nv.apartO, Nv.hasO, Nv.FR.back, Nv.backG, Nv.tTup, Nv.tsCons, Nv.tsNil, Nv.tName, Nv.getR, Nv.isDct, Nv.gA1, Nv.gA2, Nv.gI, Nv.okT, Nv.gSub, Nv.gMul, Nv.gMod, Nv.gFdv, Nv.gPow, Nv.gLt, Nv.gLe, Nv.gGt, Nv.gGe, Nv.gI2, Nv.gInt, Nv.gList, Nv.gTuple, Nv.len_lst, Nv.len_tup, Nv.len_fz, Nv.len_S, Nv.isLst, Nv.mutR, Nv.gApp, Nv.gPop0, Nv.gPop1, Nv.gRev, Nv.sl_lst, Nv.sl_fz, Nv.sl_tup, Nv.sl_S, Nv.fldR, Nv.S_length, Nv.cutS_S, Nv.S_app, Nv.chD_S, Nv.ix_S, Nv.gEq_S, Nv.gNe_S, Nv.gEq_int, Nv.gNe_int, Nv.gEq_bl, Nv.gNe_bl, Nv.gIn_S, Nv.gNin_S, Nv.cutL_nn, Nv.cutL_0n, Nv.cutL_n0, Nv.ofs_empty, Nv.sl0, Nv.sl1, Nv.sl2, Nv.sl3, Nv.sl4, Nv.sl5, Nv.sl6, Nv.sl7, Nv.sl8, Nv.add_int, Nv.add_str, Nv.add_lst, Nv.ix_lst, Nv.ix_tup, Nv.ix_fz, Nv.Pn.ix_left, Nv.Pn.ix_at, Nv.Pn.ix_cells, Nv.Pn.put_left, Nv.Pn.put_at, Nv.itemsOV, Nv.itemsOV2, Nv.it_lst, Nv.it_tup, Nv.it_fz, Nv.it_str, Nv.it2_lst, Nv.it2_tup, Nv.it2_fz, Nv.it2_str, Nv.it2_dct, List.getElem?_cons_zero, List.getElem?_cons_succ, List.set_cons_zero, List.set_cons_succ, List.length_cons, List.length_nil, List.length_map, Nv.tagA, Nv.tag1, Nv.outA, Nv.FR.mk, Option.map_some, Option.map_none, Option.bind_some, Option.bind_none, Nv.fgO_nx, Nv.fgO_bk, Nv.fgO_ct, Nv.fgO_rt, Nv.wipeG, Nv.unw, Nv.anchor, List.cons_append, List.nil_append, if_true, if_false, reduceIte, Bool.and_true, Bool.true_and, Bool.not_false, Bool.not_true, decide_true, decide_false, Bool.false_eq_true, decide_eq_true_eq, List.lookup_cons, Int.toNat_natCast, Nat.sub_self, Nat.reduceSub, Nat.reduceAdd, Nat.reduceEqDiff, List.replicate_succ, List.replicate_zero, $a,*])
-- D_k40
namespace Nv
open PySem PySem.Spec PyProof.Rows L2
noncomputable section
/-- _law_pen: 0 script -/
def d__law_pen : Ev → Out := (retS (dispO (prCons (cst (.str ("cells" : Str))) (frzE (opA (gA1 gList) (consA (datB (frzE (sliceO (slotB 0) noPart (partO (datO (cst (.int 63))))))) nilA))) (prCons (cst (.str ("at" : Str))) (cst (.int 0)) (prCons (cst (.str ("left" : Str))) (cst (.int 0)) prNil)))))
def f__law_pen : List AV → FR := shut (runF 1 d__law_pen)
theorem u__law_pen : f__law_pen = runF 1 d__law_pen := shut_eq _
/-- _law_draw: 0 pen 1 many 2 digit 3 at 4 cell 5 mixed -/
def d__law_draw : Ev → Out := (seqS (ifS (tstE (op2 gGe (datB (frzE (op2 gIx (slotB 0) (datB (cst (.str ("left" : Str))))))) (slotB 1)))
    (seqS (setS 2 (op2 gMod (datB (frzE (opA (gA1 gInt) (consA (datB (frzE (op2 gIx (slotB 0) (datB (cst (.str ("left" : Str))))))) nilA)))) (slotB 1)))
    (seqS (putS 0 (datB (cst (.str ("left" : Str)))) (frzE (op2 gFdv (datB (frzE (op2 gIx (slotB 0) (datB (cst (.str ("left" : Str))))))) (slotB 1))))
    (retS (mvE 2))))
    nilS)
    (seqS (setS 3 (op2 gIx (slotB 0) (datB (cst (.str ("at" : Str))))))
    (seqS (putS 0 (datB (cst (.str ("at" : Str)))) (frzE (op2 gAdd (slotB 3) (datB (cst (.int 1))))))
    (seqS (setS 4 (op2 gAdd (datB (frzE (op2 gMul (datB (cst (.int 41))) (slotB 3)))) (datB (cst (.int 23)))))
    (seqS (ifS (tstE (op2 gNe (datB (frzE (op2 gIx (slotB 0) (datB (cst (.str ("cells" : Str))))))) (datB (frzE (lstE nilA)))))
    (setS 4 (op2 gIx (datB (frzE (op2 gIx (slotB 0) (datB (cst (.str ("cells" : Str))))))) (datB (frzE (op2 gMod (datB (frzE (opA (gA1 gInt) (consA (slotB 3) nilA)))) (datB (frzE (opA (gA1 gLen) (consA (datB (frzE (op2 gIx (slotB 0) (datB (cst (.str ("cells" : Str))))))) nilA)))))))))
    nilS)
    (seqS (ifS (andT (tstE (op2 gLt (slotB 3) (datB (frzE (opA (gA1 gLen) (consA (datB (frzE (op2 gIx (slotB 0) (datB (cst (.str ("cells" : Str))))))) nilA)))))) (tstE (op2 gGe (slotB 4) (datB (frzE (op2 gPow (datB (cst (.int 10))) (datB (cst (.int 18)))))))))
    (seqS (putS 0 (datB (cst (.str ("left" : Str)))) (frzE (op2 gFdv (datB (frzE (op2 gSub (slotB 4) (datB (frzE (op2 gPow (datB (cst (.int 10))) (datB (cst (.int 18))))))))) (slotB 1))))
    (retS (op2 gMod (datB (frzE (opA (gA1 gInt) (consA (datB (frzE (op2 gSub (slotB 4) (datB (frzE (op2 gPow (datB (cst (.int 10))) (datB (cst (.int 18))))))))) nilA)))) (slotB 1))))
    nilS)
    (seqS (setS 5 (op2 gAdd (datB (frzE (op2 gAdd (datB (frzE (op2 gAdd (datB (frzE (op2 gMul (datB (frzE (op2 gMod (datB (frzE (opA (gA1 gInt) (consA (slotB 4) nilA)))) (datB (cst (.int 2147483587)))))) (datB (cst (.int 48271)))))) (datB (frzE (op2 gMul (datB (frzE (op2 gMul (datB (cst (.int 40014))) (slotB 3)))) (slotB 3))))))) (datB (frzE (op2 gMul (datB (cst (.int 59))) (slotB 3))))))) (datB (cst (.int 17)))))
    (seqS (setS 5 (op2 gMod (datB (frzE (opA (gA1 gInt) (consA (slotB 5) nilA)))) (datB (cst (.int 2147483629)))))
    (seqS (setS 5 (op2 gMod (datB (frzE (opA (gA1 gInt) (consA (datB (frzE (op2 gMul (slotB 5) (datB (frzE (op2 gAdd (slotB 5) (datB (cst (.int 69621))))))))) nilA)))) (datB (cst (.int 2147483549)))))
    (retS (op2 gMod (datB (frzE (opA (gA1 gInt) (consA (datB (frzE (op2 gFdv (datB (frzE (op2 gMod (datB (frzE (opA (gA1 gInt) (consA (datB (frzE (op2 gMul (slotB 5) (slotB 5)))) nilA)))) (datB (cst (.int 2147483579)))))) (datB (cst (.int 32)))))) nilA)))) (slotB 1))))))))))))
def f__law_draw : List AV → FR := shut (runF 6 d__law_draw)
theorem u__law_draw : f__law_draw = runF 6 d__law_draw := shut_eq _
/-- _law_signs: 0 pen 1 many 2 left 3 found 4 turn 5 at -/
abbrev b__law_signs_1 : Ev → Out := (fgS [4, 5] (seqS (setS 5 (callO 2 f__law_draw (consA (slotB 0) (consA (datB (frzE (opA (gA1 gLen) (consA (slotB 2) nilA)))) nilA))))
    (par2 3 2 (op2 gAdd (slotB 3) (datB (frzE (op2 gIx (slotB 2) (slotB 5))))) (op2 gAdd (datB (frzE (sliceO (slotB 2) noPart (partO (datO (nameE 5)))))) (datB (frzE (sliceO (slotB 2) (partO (op2 gAdd (slotB 5) (datB (cst (.int 1))))) noPart)))))))
def d__law_signs : Ev → Out := (seqS (asgS (tTup (tsCons (tName 2) (tsCons (tName 3) tsNil))) (frzE (tupE (consA (datB (cst (.str ("abcdefghijklmnopqrstuvwxyz" : Str)))) (consA (datB (cst (.str ("" : Str)))) nilA)))))
    (seqS (forS (tName 4) (bare (rngI1 (consA (slotB 1) nilA)))
    b__law_signs_1)
    (retS (mvE 3))))
def f__law_signs : List AV → FR := shut (runF 6 d__law_signs)
theorem u__law_signs : f__law_signs = runF 6 d__law_signs := shut_eq _
/-- _law_pick: 0 pen 1 items -/
def d__law_pick : Ev → Out := (retS (op2 gIx (slotB 1) (datB (frzE (callO 2 f__law_draw (consA (slotB 0) (consA (datB (frzE (opA (gA1 gLen) (consA (slotB 1) nilA)))) nilA)))))))
def f__law_pick : List AV → FR := shut (runF 2 d__law_pick)
theorem u__law_pick : f__law_pick = runF 2 d__law_pick := shut_eq _
end
end Nv
-- D_k44
namespace Nv
open PySem PySem.Spec PyProof.Rows L2
noncomputable section
end
end Nv
-- D_k07
namespace Nv
open PySem PySem.Spec PyProof.Rows L2
noncomputable section
/-- check_rows: 0 rows 1 state 2 row 3 place 4 way -/
abbrev b_check_rows_1 : Ev → Out := (fgS [3, 4] (ifS (notT (tstE (chainO gLe gLt (datB (cst (.int 0))) (datB (frzE (op2 gIx (slotB 4) (datB (cst (.int 0)))))) (datB (frzE (opA (gA1 gLen) (consA (slotB 0) nilA)))))))
    (raiseS ("BadMachine" : Str) [("state" : Str), ("place" : Str)] (consA (datB (nameE 1)) (consA (datB (nameE 3)) nilA)))
    nilS))
abbrev b_check_rows_2 : Ev → Out := (fgS [1, 2] (forS (tTup (tsCons (tName 3) (tsCons (tName 4) tsNil))) (bare (enI (consA (datB (nameE 2)) nilA)))
    b_check_rows_1))
def d_check_rows : Ev → Out := (forS (tTup (tsCons (tName 1) (tsCons (tName 2) tsNil))) (bare (enI (consA (datB (nameE 0)) nilA)))
    b_check_rows_2)
def f_check_rows : List AV → FR := shut (runF 5 d_check_rows)
theorem u_check_rows : f_check_rows = runF 5 d_check_rows := shut_eq _
/-- ascending: 0 words 1 word -/
abbrev q_ascending_1 : Ev → Rs D := (nameE 1)
abbrev q_ascending_2 : Ev → Rs D := (cst (.bl true))
abbrev q_ascending_3 : Ev → Rs D := (frzE (opA (gA1 gStr) (consA (slotB 1) nilA)))
def d_ascending : Ev → Out := (retS (opA (gA1 gTuple) (consA (datB (frzE (opA (gA1 gSort2) (consA (datB (frzE (compO [1] (seqI (datB (frzE (compD [1] (seqI (slotB 0)) (tName 1) yesT q_ascending_1 q_ascending_2)))) (tName 1) yesT q_ascending_3))) nilA)))) nilA)))
def f_ascending : List AV → FR := shut (runF 2 d_ascending)
theorem u_ascending : f_ascending = runF 2 d_ascending := shut_eq _
/-- keys_in: 0 rows 1 ends 2 given 3 row 4 goal 5 keys 6 key -/
abbrev q_keys_in_1 : Ev → Rs D := (nameE 6)
abbrev q_keys_in_2 : Ev → Rs D := (nameE 6)
def d_keys_in : Ev → Out := (seqS (setS 2 (compN [3, 4, 5, 6] (seqI (slotB 0)) (tName 3) yesT [⟨bare (seqI (slotB 3)), (tTup (tsCons (tName 4) (tsCons (tName 5) tsNil))), yesT, [4, 5, 6]⟩, ⟨bare (seqI (slotB 5)), (tName 6), yesT, [6]⟩] q_keys_in_1))
    (retS (callO 1 f_ascending (consA (datB (frzE (lstE (starA (slotB 2) (starA (datB (frzE (compN [5, 6] (seqI (slotB 1)) (tName 5) yesT [⟨bare (seqI (slotB 5)), (tName 6), yesT, [6]⟩] q_keys_in_2))) nilA))))) nilA))))
def f_keys_in : List AV → FR := shut (runF 7 d_keys_in)
theorem u_keys_in : f_keys_in = runF 7 d_keys_in := shut_eq _
/-- Machine.__init__: 0 self 1 signs 2 rows 3 ends 4 row 5 goal 6 keys -/
abbrev q_Machine_init_v1_1 : Ev → Rs D := (frzE (tupE (consA (datB (nameE 5)) (consA (datB (frzE (callO 1 f_ascending (consA (datB (nameE 6)) nilA)))) nilA))))
abbrev q_Machine_init_v1_2 : Ev → Rs D := (frzE (opA (gA1 gTuple) (consA (datB (frzE (compO [5, 6] (seqI (slotB 4)) (tTup (tsCons (tName 5) (tsCons (tName 6) tsNil))) yesT q_Machine_init_v1_1))) nilA)))
abbrev q_Machine_init_v1_3 : Ev → Rs D := (frzE (callO 1 f_ascending (consA (datB (nameE 6)) nilA)))
def d_Machine_init_v1 : Ev → Out := (seqS (exprS (callO 1 f_check_rows (consA (datB (nameE 2)) nilA)))
    (seqS (fldS 0 ("signs" : Str) [("Machine" : Str), ("Rule" : Str), ("Edits" : Str), ("Table" : Str)] (nameE 1))
    (seqS (fldS 0 ("rows" : Str) [("Machine" : Str), ("Edits" : Str), ("Table" : Str), ("Reading" : Str)] (frzE (opA (gA1 gTuple) (consA (datB (frzE (compO [4] (seqI (slotB 2)) (tName 4) yesT q_Machine_init_v1_2))) nilA))))
    (seqS (fldS 0 ("ends" : Str) [("Machine" : Str)] (frzE (opA (gA1 gTuple) (consA (datB (frzE (compO [6] (seqI (slotB 3)) (tName 6) yesT q_Machine_init_v1_3))) nilA))))
    (seqS (fldS 0 ("all_keys" : Str) [("Machine" : Str), ("Rule" : Str)] (frzE (callO 2 f_keys_in (consA (datB (frzE (op1 (gFld ("rows" : Str) [("Machine" : Str), ("Edits" : Str), ("Table" : Str), ("Reading" : Str)]) (slotB 0)))) (consA (datB (frzE (op1 (gFld ("ends" : Str) [("Machine" : Str)]) (slotB 0)))) nilA)))))
    (ifS (tstE (op2 gGt (datB (frzE (opA (gA1 gLen) (consA (datB (frzE (op1 (gFld ("all_keys" : Str) [("Machine" : Str), ("Rule" : Str)]) (slotB 0)))) nilA)))) (datB (cst (.int 12)))))
    (raiseS ("TooMany" : Str) [("what" : Str)] (consA (datB (cst (.str ("keys" : Str)))) nilA))
    nilS))))))
def f_Machine_init_v1 : List AV → FR := shut (runF 7 d_Machine_init_v1)
theorem u_Machine_init_v1 : f_Machine_init_v1 = runF 7 d_Machine_init_v1 := shut_eq _
/-- _law_texts: 0 signs 1 most 2 found 3 latest 4 turn 5 longer 6 text 7 sign -/
abbrev q__law_texts_1 : Ev → Rs D := (frzE (op2 gAdd (slotB 6) (slotB 7)))
abbrev b__law_texts_1 : Ev → Out := (fgS [6] (setS 5 (op2 gAdd (slotB 5) (datB (frzE (compO [7] (seqI (slotB 0)) (tName 7) yesT q__law_texts_1))))))
abbrev b__law_texts_2 : Ev → Out := (fgS [4, 5] (seqS (setS 5 (lstE nilA))
    (seqS (forS (tName 6) (bare (seqI (datB (nameE 3))))
    b__law_texts_1)
    (par2 2 3 (op2 gAdd (slotB 2) (slotB 5)) (datO (nameE 5))))))
def d__law_texts : Ev → Out := (seqS (par2 2 3 (lstE (consA (datB (cst (.str ("" : Str)))) nilA)) (lstE (consA (datB (cst (.str ("" : Str)))) nilA)))
    (seqS (forS (tName 4) (bare (rngI1 (consA (slotB 1) nilA)))
    b__law_texts_2)
    (retS (mvE 2))))
def f__law_texts : List AV → FR := shut (runF 8 d__law_texts)
theorem u__law_texts : f__law_texts = runF 8 d__law_texts := shut_eq _
end
end Nv
-- D_k09
namespace Nv
open PySem PySem.Spec PyProof.Rows L2
noncomputable section
/-- _law_keys: 0 pen 1 words 2 many 3 k -/
abbrev q__law_keys_1 : Ev → Rs D := (frzE (callO 2 f__law_pick (consA (slotB 0) (consA (datB (nameE 1)) nilA))))
def d__law_keys : Ev → Out := (seqS (setS 2 (callO 2 f__law_pick (consA (slotB 0) (consA (datB (frzE (lstE (consA (datB (cst (.int 0))) (consA (datB (cst (.int 0))) (consA (datB (cst (.int 0))) (consA (datB (cst (.int 1))) (consA (datB (cst (.int 1))) (consA (datB (cst (.int 2))) nilA))))))))) nilA))))
    (retS (op1 gSset (datB (frzE (compO [3] (rngI1 (consA (slotB 2) nilA)) (tName 3) yesT q__law_keys_1))))))
def f__law_keys : List AV → FR := shut (runF 4 d__law_keys)
theorem u__law_keys : f__law_keys = runF 4 d__law_keys := shut_eq _
/-- _law_tables: 0 pen 1 signs 2 most 3 words 4 many 5 rows 6 state 7 sign -/
abbrev q__law_tables_1 : Ev → Rs D := (frzE (tupE (consA (datB (frzE (callO 2 f__law_draw (consA (slotB 0) (consA (datB (nameE 4)) nilA))))) (consA (datB (frzE (callO 2 f__law_keys (consA (slotB 0) (consA (datB (nameE 3)) nilA))))) nilA))))
abbrev q__law_tables_2 : Ev → Rs D := (frzE (compO [7] (seqI (slotB 1)) (tName 7) yesT q__law_tables_1))
abbrev q__law_tables_3 : Ev → Rs D := (frzE (callO 2 f__law_keys (consA (slotB 0) (consA (datB (nameE 3)) nilA))))
def d__law_tables : Ev → Out := (seqS (setS 4 (op2 gAdd (datB (cst (.int 1))) (datB (frzE (callO 2 f__law_draw (consA (slotB 0) (consA (datB (nameE 2)) nilA)))))))
    (seqS (setS 5 (compO [6] (rngI1 (consA (slotB 4) nilA)) (tName 6) yesT q__law_tables_2))
    (retS (tupE (consA (datB (nameE 5)) (consA (datB (frzE (compO [6] (rngI1 (consA (slotB 4) nilA)) (tName 6) yesT q__law_tables_3))) nilA))))))
def f__law_tables : List AV → FR := shut (runF 8 d__law_tables)
theorem u__law_tables : f__law_tables = runF 8 d__law_tables := shut_eq _
/-- _law_read: 0 signs 1 tables 2 text 3 rows 4 ends 5 state 6 given 7 sign 8 keys -/
abbrev b__law_read_v2_1 : Ev → Out := (fgS [7, 8] (seqS (asgS (tTup (tsCons (tName 5) (tsCons (tName 8) tsNil))) (frzE (op2 gIx (datB (frzE (op2 gIx (slotB 3) (slotB 5)))) (datB (frzE (mth1O isS gIdxS (slotB 0) (slotB 7)))))))
    (setS 6 (op2 gAdd (slotB 6) (datB (frzE (opA (gA1 gList) (consA (slotB 8) nilA))))))))
def d__law_read_v2 : Ev → Out := (seqS (asgS (tTup (tsCons (tName 3) (tsCons (tName 4) tsNil))) (nameE 1))
    (seqS (par2 5 6 (datO (cst (.int 0))) (lstE nilA))
    (seqS (forS (tName 7) (bare (seqI (datB (nameE 2))))
    b__law_read_v2_1)
    (retS (tupE (consA (datB (nameE 5)) (consA (datB (frzE (opA (gA1 gTuple) (consA (datB (frzE (op1 gSset (datB (frzE (op2 gAdd (slotB 6) (datB (frzE (opA (gA1 gList) (consA (datB (frzE (op2 gIx (slotB 4) (slotB 5)))) nilA)))))))))) nilA)))) nilA)))))))
def f__law_read_v2 : List AV → FR := shut (runF 9 d__law_read_v2)
theorem u__law_read_v2 : f__law_read_v2 = runF 9 d__law_read_v2 := shut_eq _
end
end Nv
-- D_k45
namespace Nv
open PySem PySem.Spec PyProof.Rows L2
noncomputable section
end
end Nv
-- D_k13
namespace Nv
open PySem PySem.Spec PyProof.Rows L2
noncomputable section
/-- way_of: 0 machine 1 state 2 sign -/
def d_way_of : Ev → Out := (retS (op2 gIx (datB (frzE (op2 gIx (datB (frzE (op1 (gFld ("rows" : Str) [("Machine" : Str), ("Edits" : Str), ("Table" : Str), ("Reading" : Str)]) (slotB 0)))) (slotB 1)))) (datB (frzE (mth1O isS gIdxS (datB (frzE (op1 (gFld ("signs" : Str) [("Machine" : Str), ("Rule" : Str), ("Edits" : Str), ("Table" : Str)]) (slotB 0)))) (slotB 2))))))
def f_way_of : List AV → FR := shut (runF 3 d_way_of)
theorem u_way_of : f_way_of = runF 3 d_way_of := shut_eq _
/-- first_text: 0 signs 1 begun 2 goal_of 3 is_wanted 4 nodes 5 texts 6 place 7 sign 8 goal 9 #0 10 #1 11 #2 12 #3 13 #4 14 #5 15 #6 16 #7 -/
abbrev b_first_text_1 : List FA → Ev → Out := fun (fas : List FA) => (fgS [7, 8] (seqS (setS 8 (callV (offA 9 fas 0) 2 0 fas (consA (datB (frzE (op2 gIx (slotB 4) (slotB 6)))) (consA (datB (nameE 7)) nilA))))
    (ifS (tstE (op2 gNin (slotB 8) (slotB 4)))
    (seqS (exprS (mutL 4 gApp (consA (datB (nameE 8)) nilA)))
    (exprS (mutL 5 gApp (consA (datB (frzE (op2 gAdd (datB (frzE (op2 gIx (slotB 5) (slotB 6)))) (slotB 7)))) nilA))))
    nilS)))
abbrev b_first_text_2 : List FA → Ev → Out := fun (fas : List FA) => (seqS (ifS (tstE (callV (offA 9 fas 1) 3 1 fas (consA (datB (frzE (op2 gIx (slotB 4) (slotB 6)))) nilA)))
    (retS (op2 gIx (slotB 5) (slotB 6)))
    nilS)
    (seqS (forS (tName 7) (bare (seqI (datB (nameE 0))))
    (b_first_text_1 fas))
    (augS 6 (fun i j => i + j) (cst (.int 1)))))
def d_first_text : List FA → Ev → Out := fun fas => (seqS (par2 4 5 (lstE (consA (datB (nameE 1)) nilA)) (lstE (consA (datB (cst (.str ("" : Str)))) nilA)))
    (seqS (setS 6 (datO (cst (.int 0))))
    (seqS (whileS (tstE (op2 gLt (slotB 6) (datB (frzE (opA (gA1 gLen) (consA (slotB 4) nilA))))))
    (b_first_text_2 fas) fuel)
    (retS (datO (cst .non))))))
def f_first_text : SgF → List D → FR := fnF 17 5 d_first_text
/-- silent: 0 machine 1 goal_of -/
abbrev d_silent_goal_of : Ev → Out := (seqS (asgS (tTup (tsCons (tName 3) (tsCons (tName 4) tsNil))) (frzE (callO 3 f_way_of (consA (datB (nameE 2)) (consA (datB (frzE (op2 gIx (slotB 0) (datB (cst (.int 0)))))) (consA (datB (nameE 1)) nilA))))))
    (retS (tupE (consA (datB (nameE 3)) (consA (datB (frzE (orO (op2 gIx (slotB 0) (datB (cst (.int 1)))) (op2 gGt (datB (frzE (opA (gA1 gLen) (consA (slotB 4) nilA)))) (datB (cst (.int 0))))))) nilA)))))
abbrev e_silent_l1 : Ev → Rs AV := (andO (notO (op2 gIx (slotB 0) (datB (cst (.int 1))))) (op2 gEq (datB (frzE (opA (gA1 gLen) (consA (datB (frzE (op2 gIx (datB (frzE (op1 (gFld ("ends" : Str) [("Machine" : Str)]) (slotB 1)))) (datB (frzE (op2 gIx (slotB 0) (datB (cst (.int 0))))))))) nilA)))) (datB (cst (.int 0)))))
def d_silent : Ev → Out := (ndefS 1 (fun h1 Q1 =>
    (retS (callFO [(2, [0], runF 5 d_silent_goal_of), (1, [0], runF 2 (retS e_silent_l1))] 4 f_first_text (consA (datB (frzE (op1 (gFld ("signs" : Str) [("Machine" : Str), ("Rule" : Str), ("Edits" : Str), ("Table" : Str)]) (slotB 0)))) (consA (datB (frzE (tupE (consA (datB (cst (.int 0))) (consA (datB (cst (.bl false))) nilA))))) (endF (andU (nameF 1 h1 Q1) (andU okU okU)))))))))
def f_silent : List AV → FR := shut (runF 2 d_silent)
theorem u_silent : f_silent = runF 2 d_silent := shut_eq _
/-- _law_has: 0 keys 1 key -/
def d__law_has : Ev → Out := (retS (ifO (tstE (op2 gIsn (slotB 1) (datB (cst .non)))) (op2 gIn (slotB 1) (slotB 0)) (op2 gGt (datB (frzE (opA (gA1 gLen) (consA (slotB 0) nilA)))) (datB (cst (.int 0))))))
def f__law_has : List AV → FR := shut (runF 2 d__law_has)
theorem u__law_has : f__law_has = runF 2 d__law_has := shut_eq _
/-- _law_first: 0 signs 1 tables 2 key 3 nodes 4 texts 5 at 6 state 7 given 8 ends 9 place 10 goal 11 keys 12 node -/
abbrev b__law_first_1 : Ev → Out := (fgS [9, 10, 11, 12] (seqS (asgS (tTup (tsCons (tName 10) (tsCons (tName 11) tsNil))) (frzE (op2 gIx (datB (frzE (op2 gIx (datB (frzE (op2 gIx (slotB 1) (datB (cst (.int 0)))))) (slotB 6)))) (slotB 9))))
    (seqS (setS 12 (tupE (consA (datB (nameE 10)) (consA (datB (frzE (orO (datO (nameE 7)) (callO 2 f__law_has (consA (datB (frzE (opA (gA1 gList) (consA (slotB 11) nilA)))) (consA (datB (nameE 2)) nilA)))))) nilA))))
    (ifS (tstE (op2 gNin (slotB 12) (slotB 3)))
    (seqS (exprS (mutL 3 gApp (consA (datB (nameE 12)) nilA)))
    (exprS (mutL 4 gApp (consA (datB (frzE (op2 gAdd (datB (frzE (op2 gIx (slotB 4) (slotB 5)))) (datB (frzE (op2 gIx (slotB 0) (slotB 9))))))) nilA))))
    nilS))))
abbrev b__law_first_2 : Ev → Out := (fgS [6, 7, 8] (seqS (asgS (tTup (tsCons (tName 6) (tsCons (tName 7) tsNil))) (frzE (op2 gIx (slotB 3) (slotB 5))))
    (seqS (setS 8 (opA (gA1 gList) (consA (datB (frzE (op2 gIx (datB (frzE (op2 gIx (slotB 1) (datB (cst (.int 1)))))) (slotB 6)))) nilA)))
    (seqS (ifS (tstE (op2 gEq (datB (frzE (orO (datO (nameE 7)) (callO 2 f__law_has (consA (datB (nameE 8)) (consA (datB (nameE 2)) nilA)))))) (datB (frzE (op2 gIsn (slotB 2) (datB (cst .non)))))))
    (retS (op2 gIx (slotB 4) (slotB 5)))
    nilS)
    (seqS (forS (tName 9) (bare (rngI1 (consA (datB (frzE (opA (gA1 gLen) (consA (slotB 0) nilA)))) nilA)))
    b__law_first_1)
    (setS 5 (op2 gAdd (slotB 5) (datB (cst (.int 1))))))))))
def d__law_first : Ev → Out := (seqS (par3 3 4 5 (lstE (consA (datB (frzE (tupE (consA (datB (cst (.int 0))) (consA (datB (cst (.bl false))) nilA))))) nilA)) (lstE (consA (datB (cst (.str ("" : Str)))) nilA)) (datO (cst (.int 0))))
    (seqS (whileS (tstE (op2 gLt (slotB 5) (datB (frzE (opA (gA1 gLen) (consA (slotB 3) nilA))))))
    b__law_first_2 fuel)
    (retS (datO (cst .non)))))
def f__law_first : List AV → FR := shut (runF 13 d__law_first)
theorem u__law_first : f__law_first = runF 13 d__law_first := shut_eq _
/-- _law_are_first: 0 signs 1 tables 2 told 3 key 4 text 5 due -/
abbrev b__law_are_first_1 : Ev → Out := (fgS [4, 5] (seqS (setS 5 (op2 gIx (datB (frzE (callO 3 f__law_read_v2 (consA (datB (nameE 0)) (consA (datB (nameE 1)) (consA (datB (nameE 4)) nilA)))))) (datB (cst (.int 1)))))
    (ifS (ifT (tstE (op2 gIs (slotB 3) (datB (cst .non)))) (tstE (op2 gEq (slotB 5) (datB (frzE (tupE nilA))))) (tstE (op2 gIn (slotB 3) (slotB 5))))
    (retS (op2 gEq (slotB 2) (slotB 4)))
    nilS)))
def d__law_are_first : Ev → Out := (seqS (forS (tName 4) (bare (seqI (datB (frzE (callO 2 f__law_texts (consA (datB (nameE 0)) (consA (datB (cst (.int 3))) nilA)))))))
    b__law_are_first_1)
    (retS (orO (op2 gIs (slotB 2) (datB (cst .non))) (op2 gGt (datB (frzE (opA (gA1 gLen) (consA (slotB 2) nilA)))) (datB (cst (.int 3)))))))
def f__law_are_first : List AV → FR := shut (runF 6 d__law_are_first)
theorem u__law_are_first : f__law_are_first = runF 6 d__law_are_first := shut_eq _
/-- giving: 0 machine 1 key 2 goal_of -/
abbrev d_giving_goal_of : Ev → Out := (seqS (asgS (tTup (tsCons (tName 4) (tsCons (tName 5) tsNil))) (frzE (callO 3 f_way_of (consA (datB (nameE 3)) (consA (datB (frzE (op2 gIx (slotB 0) (datB (cst (.int 0)))))) (consA (datB (nameE 1)) nilA))))))
    (retS (tupE (consA (datB (nameE 4)) (consA (datB (frzE (orO (op2 gIx (slotB 0) (datB (cst (.int 1)))) (op2 gIn (slotB 2) (slotB 5))))) nilA)))))
abbrev e_giving_l1 : Ev → Rs AV := (orO (op2 gIx (slotB 0) (datB (cst (.int 1)))) (op2 gIn (slotB 1) (datB (frzE (op2 gIx (datB (frzE (op1 (gFld ("ends" : Str) [("Machine" : Str)]) (slotB 2)))) (datB (frzE (op2 gIx (slotB 0) (datB (cst (.int 0)))))))))))
def d_giving : Ev → Out := (ndefS 2 (fun h2 Q2 =>
    (retS (callFO [(2, [1, 0], runF 6 d_giving_goal_of), (1, [1, 0], runF 3 (retS e_giving_l1))] 4 f_first_text (consA (datB (frzE (op1 (gFld ("signs" : Str) [("Machine" : Str), ("Rule" : Str), ("Edits" : Str), ("Table" : Str)]) (slotB 0)))) (consA (datB (frzE (tupE (consA (datB (cst (.int 0))) (consA (datB (cst (.bl false))) nilA))))) (endF (andU (nameF 2 h2 Q2) (andU okU okU)))))))))
def f_giving : List AV → FR := shut (runF 3 d_giving)
theorem u_giving : f_giving = runF 3 d_giving := shut_eq _
/-- law: 0 script 1 pen 2 turn 3 signs 4 words 5 tables 6 row 7 goal 8 keys 9 machine 10 told 11 key -/
abbrev q_law_v24_1 : Ev → Rs D := (frzE (tupE (consA (datB (nameE 7)) (consA (datB (frzE (op1 gSset (datB (frzE (op2 gAdd (datB (frzE (opA (gA1 gList) (consA (slotB 8) nilA)))) (datB (frzE (lstE (consA (datB (cst (.str ("x" : Str)))) nilA)))))))))) nilA))))
abbrev q_law_v24_2 : Ev → Rs D := (frzE (compO [7, 8] (seqI (slotB 6)) (tTup (tsCons (tName 7) (tsCons (tName 8) tsNil))) yesT q_law_v24_1))
abbrev b_law_v24_1 : Ev → Out := (fgS [10, 11] (seqS (setS 10 (callO 2 f_giving (consA (datB (nameE 9)) (consA (datB (nameE 11)) nilA))))
    (ifS (orT (tstE (op2 gNe (slotB 10) (datB (frzE (callO 3 f__law_first (consA (datB (nameE 3)) (consA (datB (nameE 5)) (consA (datB (nameE 11)) nilA)))))))) (notT (tstE (callO 4 f__law_are_first (consA (datB (nameE 3)) (consA (datB (nameE 5)) (consA (datB (nameE 10)) (consA (datB (nameE 11)) nilA))))))))
    (retS (datO (cst (.bl false))))
    nilS)))
abbrev b_law_v24_2 : Ev → Out := (fgS [2, 3, 4, 5, 9, 10] (seqS (par2 3 4 (callO 2 f__law_signs (consA (slotB 1) (consA (datB (frzE (op2 gAdd (datB (cst (.int 1))) (datB (frzE (callO 2 f__law_draw (consA (slotB 1) (consA (datB (cst (.int 4))) nilA)))))))) nilA))) (lstE (consA (datB (cst (.str ("x" : Str)))) (consA (datB (cst (.str ("y" : Str)))) (consA (datB (cst (.str ("z" : Str)))) (consA (datB (cst (.str ("0" : Str)))) nilA))))))
    (seqS (setS 5 (callO 4 f__law_tables (consA (slotB 1) (consA (datB (nameE 3)) (consA (datB (cst (.int 16))) (consA (datB (frzE (sliceO (slotB 4) noPart (partO (op2 gAdd (datB (cst (.int 1))) (datB (frzE (callO 2 f__law_draw (consA (slotB 1) (consA (datB (cst (.int 4))) nilA)))))))))) nilA))))))
    (seqS (ifS (tstE (op2 gEq (datB (frzE (callO 2 f__law_draw (consA (slotB 1) (consA (datB (cst (.int 2))) nilA))))) (datB (cst (.int 0)))))
    (setS 5 (tupE (consA (datB (frzE (compO [6] (seqI (datB (frzE (op2 gIx (slotB 5) (datB (cst (.int 0))))))) (tName 6) yesT q_law_v24_2))) (consA (datB (frzE (op2 gIx (slotB 5) (datB (cst (.int 1)))))) nilA))))
    nilS)
    (seqS (setS 9 (makeO ("Machine" : Str) 4 f_Machine_init_v1 (consA (datB (nameE 3)) (consA (datB (frzE (op2 gIx (slotB 5) (datB (cst (.int 0)))))) (consA (datB (frzE (op2 gIx (slotB 5) (datB (cst (.int 1)))))) nilA)))))
    (seqS (setS 10 (callO 1 f_silent (consA (datB (nameE 9)) nilA)))
    (seqS (ifS (orT (tstE (op2 gNe (slotB 10) (datB (frzE (callO 3 f__law_first (consA (datB (nameE 3)) (consA (datB (nameE 5)) (consA (datB (cst .non)) nilA)))))))) (notT (tstE (callO 4 f__law_are_first (consA (datB (nameE 3)) (consA (datB (nameE 5)) (consA (datB (nameE 10)) (consA (datB (cst .non)) nilA))))))))
    (retS (datO (cst (.bl false))))
    nilS)
    (forS (tName 11) (bare (seqI (datB (frzE (op2 gAdd (slotB 4) (datB (frzE (lstE (consA (datB (cst (.str ("strange" : Str)))) nilA)))))))))
    b_law_v24_1))))))))
def d_law_v24 : Ev → Out := (seqS (setS 1 (callO 1 f__law_pen (consA (datB (nameE 0)) nilA)))
    (seqS (forS (tName 2) (bare (rngI1 (consA (datB (frzE (op2 gAdd (datB (cst (.int 5))) (datB (frzE (opA (gA2 (gI2 min2)) (consA (datB (cst (.int 6))) (consA (datB (frzE (opA (gA1 gLen) (consA (slotB 0) nilA)))) nilA)))))))) nilA)))
    b_law_v24_2)
    (retS (datO (cst (.bl true))))))
def f_law_v24 : List AV → FR := shut (runF 12 d_law_v24)
theorem u_law_v24 : f_law_v24 = runF 12 d_law_v24 := shut_eq _
end
end Nv
-- P_k13
namespace K13
open PySem PySem.Spec PyProof.Rows L2 Nv
theorem sc__law_pen : FnScope ["script"] ["script"] (defScope s__law_pen) := ⟨rfl, rfl, rfl, by decide +kernel, rfl, by decide +kernel, by decide +kernel⟩
theorem sc__law_draw : FnScope ["pen", "many", "digit", "at", "cell", "mixed"] ["pen", "many"] (defScope s__law_draw) := ⟨rfl, rfl, rfl, by decide +kernel, rfl, by decide +kernel, by decide +kernel⟩
theorem sc__law_signs : FnScope ["pen", "many", "left", "found", "turn", "at"] ["pen", "many"] (defScope s__law_signs) := ⟨rfl, rfl, rfl, by decide +kernel, rfl, by decide +kernel, by decide +kernel⟩
theorem sc__law_pick : FnScope ["pen", "items"] ["pen", "items"] (defScope s__law_pick) := ⟨rfl, rfl, rfl, by decide +kernel, rfl, by decide +kernel, by decide +kernel⟩
theorem sc__law_keys : FnScope ["pen", "words", "many", "k"] ["pen", "words"] (defScope s__law_keys) := ⟨rfl, rfl, rfl, by decide +kernel, rfl, by decide +kernel, by decide +kernel⟩
theorem sc__law_tables : FnScope ["pen", "signs", "most", "words", "many", "rows", "state", "sign"] ["pen", "signs", "most", "words"] (defScope s__law_tables) := ⟨rfl, rfl, rfl, by decide +kernel, rfl, by decide +kernel, by decide +kernel⟩
theorem sc_check_rows : FnScope ["rows", "state", "row", "place", "way"] ["rows"] (defScope s_check_rows) := ⟨rfl, rfl, rfl, by decide +kernel, rfl, by decide +kernel, by decide +kernel⟩
theorem sc_ascending : FnScope ["words", "word"] ["words"] (defScope s_ascending) := ⟨rfl, rfl, rfl, by decide +kernel, rfl, by decide +kernel, by decide +kernel⟩
theorem sc_keys_in : FnScope ["rows", "ends", "given", "row", "goal", "keys", "key"] ["rows", "ends"] (defScope s_keys_in) := ⟨rfl, rfl, rfl, by decide +kernel, rfl, by decide +kernel, by decide +kernel⟩
theorem sc_Machine_init_v1 : FnScope ["self", "signs", "rows", "ends", "row", "goal", "keys"] ["self", "signs", "rows", "ends"] (defScope s_Machine_init_v1) := ⟨rfl, rfl, rfl, by decide +kernel, rfl, by decide +kernel, by decide +kernel⟩
theorem sc_way_of : FnScope ["machine", "state", "sign"] ["machine", "state", "sign"] (defScope s_way_of) := ⟨rfl, rfl, rfl, by decide +kernel, rfl, by decide +kernel, by decide +kernel⟩
theorem sc_first_text : FnScope ["signs", "begun", "goal_of", "is_wanted", "nodes", "texts", "place", "sign", "goal", "#0", "#1", "#2", "#3", "#4", "#5", "#6", "#7"] ["signs", "begun", "goal_of", "is_wanted"] (defScope s_first_text) := ⟨rfl, rfl, rfl, by decide +kernel, rfl, by decide +kernel, by decide +kernel⟩
theorem sc_silent : FnScope ["machine", "goal_of"] ["machine"] (defScope s_silent) := ⟨rfl, rfl, rfl, by decide +kernel, rfl, by decide +kernel, by decide +kernel⟩
theorem sc__law_has : FnScope ["keys", "key"] ["keys", "key"] (defScope s__law_has) := ⟨rfl, rfl, rfl, by decide +kernel, rfl, by decide +kernel, by decide +kernel⟩
theorem sc__law_first : FnScope ["signs", "tables", "key", "nodes", "texts", "at", "state", "given", "ends", "place", "goal", "keys", "node"] ["signs", "tables", "key"] (defScope s__law_first) := ⟨rfl, rfl, rfl, by decide +kernel, rfl, by decide +kernel, by decide +kernel⟩
theorem sc__law_texts : FnScope ["signs", "most", "found", "latest", "turn", "longer", "text", "sign"] ["signs", "most"] (defScope s__law_texts) := ⟨rfl, rfl, rfl, by decide +kernel, rfl, by decide +kernel, by decide +kernel⟩
theorem sc__law_read_v2 : FnScope ["signs", "tables", "text", "rows", "ends", "state", "given", "sign", "keys"] ["signs", "tables", "text"] (defScope s__law_read_v2) := ⟨rfl, rfl, rfl, by decide +kernel, rfl, by decide +kernel, by decide +kernel⟩
theorem sc__law_are_first : FnScope ["signs", "tables", "told", "key", "text", "due"] ["signs", "tables", "told", "key"] (defScope s__law_are_first) := ⟨rfl, rfl, rfl, by decide +kernel, rfl, by decide +kernel, by decide +kernel⟩
theorem sc_giving : FnScope ["machine", "key", "goal_of"] ["machine", "key"] (defScope s_giving) := ⟨rfl, rfl, rfl, by decide +kernel, rfl, by decide +kernel, by decide +kernel⟩
theorem sc_law_v24 : FnScope ["script", "pen", "turn", "signs", "words", "tables", "row", "goal", "keys", "machine", "told", "key"] ["script"] (defScope s_law_v24) := ⟨rfl, rfl, rfl, by decide +kernel, rfl, by decide +kernel, by decide +kernel⟩
structure Txt (K : PySem.W.Frag) (mg : Str → Option Value) : Prop where
  b_enumerate : mg "enumerate" = none
  b_int : mg "int" = none
  b_len : mg "len" = none
  b_list : mg "list" = none
  b_min : mg "min" = none
  b_range : mg "range" = none
  b_set : mg "set" = none
  b_sorted : mg "sorted" = none
  b_str : mg "str" = none
  b_tuple : mg "tuple" = none
  g_MOST_KEYS : ∃ u, mg "MOST_KEYS" = some u ∧ RelV (.int 12) u
  f_all_keys : FldOk ⟨K, mg⟩ ("all_keys" : Str) [("Machine" : Str), ("Rule" : Str)]
  f_ends : FldOk ⟨K, mg⟩ ("ends" : Str) [("Machine" : Str)]
  f_rows : FldOk ⟨K, mg⟩ ("rows" : Str) [("Machine" : Str), ("Edits" : Str), ("Table" : Str), ("Reading" : Str)]
  f_signs : FldOk ⟨K, mg⟩ ("signs" : Str) [("Machine" : Str), ("Rule" : Str), ("Edits" : Str), ("Table" : Str)]
  errs : Errs ⟨K, mg⟩ [(("BadMachine" : Str), [("state" : Str), ("place" : Str)]), (("TooMany" : Str), [("what" : Str)])]
section
variable {P : Program} {w : World} {K : PySem.W.Frag} {mg : Str → Option Value} {base : Heap}
theorem p__law_pen {f : Addr} {fd : FuncData} (F : Fun K "_law_pen" "_law_pen" s__law_pen f fd) (T : Txt K mg)  : FnOk P w K mg base (L2.CX P w) 1 f fd ["script"] (spD ⟨K, mg⟩ 1 f__law_pen) :=
  u__law_pen ▸ fn_def F sc__law_pen fun cdv A outer s H vs E hr => by
    have hu : (A.deeper (envOfC "_law_pen" (defScope s__law_pen) s.heap.objs.size f cdv)).units + 65 < cLine := by have := hr.un; omega
    have hu1 : (A.deeper (envOfC "_law_pen" (defScope s__law_pen) s.heap.objs.size f cdv)).units + 1 < cLine := by omega
    have hN := sc__law_pen.nd
    exact (ds_one (ds_ret (do_disp (dps_cons de_str (de_o (do_list rfl T.b_list (da_cons (db_of (de_o (do_slice rfl (db_name (pv 0)) dp_none (dp_some (do_of de_int))))) da_nil))) (dps_cons de_str de_int (dps_cons de_str de_int dps_nil))))))
theorem p__law_draw {f : Addr} {fd : FuncData} (F : Fun K "_law_draw" "_law_draw" s__law_draw f fd) (T : Txt K mg)  : FnOk P w K mg base (L2.CX P w) 1 f fd ["pen", "many"] (spD ⟨K, mg⟩ 2 f__law_draw) :=
  u__law_draw ▸ fn_def F sc__law_draw fun cdv A outer s H vs E hr => by
    have hu : (A.deeper (envOfC "_law_draw" (defScope s__law_draw) s.heap.objs.size f cdv)).units + 65 < cLine := by have := hr.un; omega
    have hu1 : (A.deeper (envOfC "_law_draw" (defScope s__law_draw) s.heap.objs.size f cdv)).units + 1 < cLine := by omega
    have hN := sc__law_draw.nd
    exact (ds_cons (ds_if (dt_cm cm_Ge (db_of (de_o (do_Ix hu rfl (db_name (pv 0)) (db_of de_str)))) (db_name (pv 1)))
    (ds_cons (ds_set (i := 2) hN (do_Mod (db_of (de_o (do_int T.b_int (da_cons (db_of (de_o (do_Ix hu rfl (db_name (pv 0)) (db_of de_str)))) da_nil)))) (db_name (pv 1))))
    (ds_cons (ds_put hu1 (pv 0) (db_of de_str) (de_o (do_FloorDiv (db_of (de_o (do_Ix hu rfl (db_name (pv 0)) (db_of de_str)))) (db_name (pv 1)))))
    (ds_one (ds_ret (do_mv (pv 2))))))
    ds_nil)
    (ds_cons (ds_set (i := 3) hN (do_Ix hu rfl (db_name (pv 0)) (db_of de_str)))
    (ds_cons (ds_put hu1 (pv 0) (db_of de_str) (de_o (do_Add rfl (db_name (pv 3)) (db_of de_int))))
    (ds_cons (ds_set (i := 4) hN (do_Add rfl (db_of (de_o (do_Mult (db_of de_int) (db_name (pv 3))))) (db_of de_int)))
    (ds_cons (ds_if (dt_cm (cm_Ne hu rfl) (db_of (de_o (do_Ix hu rfl (db_name (pv 0)) (db_of de_str)))) (db_of (de_o (do_lst da_nil))))
    (ds_one (ds_set (i := 4) hN (do_Ix hu rfl (db_of (de_o (do_Ix hu rfl (db_name (pv 0)) (db_of de_str)))) (db_of (de_o (do_Mod (db_of (de_o (do_int T.b_int (da_cons (db_name (pv 3)) da_nil)))) (db_of (de_o (do_len rfl T.b_len (da_cons (db_of (de_o (do_Ix hu rfl (db_name (pv 0)) (db_of de_str)))) da_nil))))))))))
    ds_nil)
    (ds_cons (ds_if (dt_bool (dw_and (dt_cm cm_Lt (db_name (pv 3)) (db_of (de_o (do_len rfl T.b_len (da_cons (db_of (de_o (do_Ix hu rfl (db_name (pv 0)) (db_of de_str)))) da_nil))))) (dw_and1 (dt_cm cm_Ge (db_name (pv 4)) (db_of (de_o (do_Pow (db_of de_int) (db_of de_int))))))))
    (ds_cons (ds_put hu1 (pv 0) (db_of de_str) (de_o (do_FloorDiv (db_of (de_o (do_Sub (db_name (pv 4)) (db_of (de_o (do_Pow (db_of de_int) (db_of de_int))))))) (db_name (pv 1)))))
    (ds_one (ds_ret (do_Mod (db_of (de_o (do_int T.b_int (da_cons (db_of (de_o (do_Sub (db_name (pv 4)) (db_of (de_o (do_Pow (db_of de_int) (db_of de_int))))))) da_nil)))) (db_name (pv 1))))))
    ds_nil)
    (ds_cons (ds_set (i := 5) hN (do_Add rfl (db_of (de_o (do_Add rfl (db_of (de_o (do_Add rfl (db_of (de_o (do_Mult (db_of (de_o (do_Mod (db_of (de_o (do_int T.b_int (da_cons (db_name (pv 4)) da_nil)))) (db_of de_int)))) (db_of de_int)))) (db_of (de_o (do_Mult (db_of (de_o (do_Mult (db_of de_int) (db_name (pv 3))))) (db_name (pv 3)))))))) (db_of (de_o (do_Mult (db_of de_int) (db_name (pv 3)))))))) (db_of de_int)))
    (ds_cons (ds_set (i := 5) hN (do_Mod (db_of (de_o (do_int T.b_int (da_cons (db_name (pv 5)) da_nil)))) (db_of de_int)))
    (ds_cons (ds_set (i := 5) hN (do_Mod (db_of (de_o (do_int T.b_int (da_cons (db_of (de_o (do_Mult (db_name (pv 5)) (db_of (de_o (do_Add rfl (db_name (pv 5)) (db_of de_int))))))) da_nil)))) (db_of de_int)))
    (ds_one (ds_ret (do_Mod (db_of (de_o (do_int T.b_int (da_cons (db_of (de_o (do_FloorDiv (db_of (de_o (do_Mod (db_of (de_o (do_int T.b_int (da_cons (db_of (de_o (do_Mult (db_name (pv 5)) (db_name (pv 5))))) da_nil)))) (db_of de_int)))) (db_of de_int)))) da_nil)))) (db_name (pv 1))))))))))))))
theorem p__law_signs {f : Addr} {fd : FuncData} (F : Fun K "_law_signs" "_law_signs" s__law_signs f fd) (T : Txt K mg) (c__law_draw : DefOk P w K mg base 1 "_law_draw" 2 f__law_draw) : FnOk P w K mg base (L2.CX P w) 2 f fd ["pen", "many"] (spD ⟨K, mg⟩ 2 f__law_signs) :=
  u__law_signs ▸ fn_def F sc__law_signs fun cdv A outer s H vs E hr => by
    have hu : (A.deeper (envOfC "_law_signs" (defScope s__law_signs) s.heap.objs.size f cdv)).units + 65 < cLine := by have := hr.un; omega
    have hu1 : (A.deeper (envOfC "_law_signs" (defScope s__law_signs) s.heap.objs.size f cdv)).units + 1 < cLine := by omega
    have hN := sc__law_signs.nd
    exact (ds_cons (ds_asg (de_o (do_tup (da_cons (db_of de_str) (da_cons (db_of de_str) da_nil)))) (pg_tupA rfl (pgs_cons (pg_name (i := 2) hN rfl (by first | exact .inl rfl | exact .inr rfl)) (pgs_cons (pg_name (i := 3) hN rfl (by first | exact .inl rfl | exact .inr rfl)) pgs_nil))) (gs_tup rfl (gss_cons (gs_name (i := 2)) (gss_cons (gs_name (i := 3)) gss_nil))))
    (ds_cons (ds_for hp_cx rfl (di_of (di_range1 T.b_range (da_cons (db_name (pv 1)) da_nil))) (pg_name (i := 4) hN rfl (by first | exact .inl rfl | exact .inr rfl)) (gs_name (i := 4))
    (dss_fg (ds_cons (ds_set (i := 5) hN (do_call c__law_draw (by decide) hr tk_cx rfl (da_cons (db_name (pv 0)) (da_cons (db_of (de_o (do_len rfl T.b_len (da_cons (db_name (pv 2)) da_nil)))) da_nil))))
    (ds_one (ds_par (i := 3) (j := 2) rfl hN (do_Add rfl (db_name (pv 3)) (db_of (de_o (do_Ix hu rfl (db_name (pv 2)) (db_name (pv 5)))))) (do_Add rfl (db_of (de_o (do_slice rfl (db_name (pv 2)) dp_none (dp_some (do_of (de_name (pv 5))))))) (db_of (de_o (do_slice rfl (db_name (pv 2)) (dp_some (do_Add rfl (db_name (pv 5)) (db_of de_int))) dp_none)))))))))
    (ds_one (ds_ret (do_mv (pv 3))))))
theorem p__law_pick {f : Addr} {fd : FuncData} (F : Fun K "_law_pick" "_law_pick" s__law_pick f fd) (T : Txt K mg) (c__law_draw : DefOk P w K mg base 1 "_law_draw" 2 f__law_draw) : FnOk P w K mg base (L2.CX P w) 2 f fd ["pen", "items"] (spD ⟨K, mg⟩ 2 f__law_pick) :=
  u__law_pick ▸ fn_def F sc__law_pick fun cdv A outer s H vs E hr => by
    have hu : (A.deeper (envOfC "_law_pick" (defScope s__law_pick) s.heap.objs.size f cdv)).units + 65 < cLine := by have := hr.un; omega
    have hu1 : (A.deeper (envOfC "_law_pick" (defScope s__law_pick) s.heap.objs.size f cdv)).units + 1 < cLine := by omega
    have hN := sc__law_pick.nd
    exact (ds_one (ds_ret (do_Ix hu rfl (db_name (pv 1)) (db_of (de_o (do_call c__law_draw (by decide) hr tk_cx rfl (da_cons (db_name (pv 0)) (da_cons (db_of (de_o (do_len rfl T.b_len (da_cons (db_name (pv 1)) da_nil)))) da_nil))))))))
theorem p__law_keys {f : Addr} {fd : FuncData} (F : Fun K "_law_keys" "_law_keys" s__law_keys f fd) (T : Txt K mg) (c__law_pick : DefOk P w K mg base 2 "_law_pick" 2 f__law_pick) : FnOk P w K mg base (L2.CX P w) 3 f fd ["pen", "words"] (spD ⟨K, mg⟩ 2 f__law_keys) :=
  u__law_keys ▸ fn_def F sc__law_keys fun cdv A outer s H vs E hr => by
    have hu : (A.deeper (envOfC "_law_keys" (defScope s__law_keys) s.heap.objs.size f cdv)).units + 65 < cLine := by have := hr.un; omega
    have hu1 : (A.deeper (envOfC "_law_keys" (defScope s__law_keys) s.heap.objs.size f cdv)).units + 1 < cLine := by omega
    have hN := sc__law_keys.nd
    exact (ds_cons (ds_set (i := 2) hN (do_call c__law_pick (by decide) hr tk_cx rfl (da_cons (db_name (pv 0)) (da_cons (db_of (de_o (do_lst (da_cons (db_of de_int) (da_cons (db_of de_int) (da_cons (db_of de_int) (da_cons (db_of de_int) (da_cons (db_of de_int) (da_cons (db_of de_int) da_nil))))))))) da_nil))))
    (ds_one (ds_ret (do_sset rfl rfl T.b_sorted T.b_set (db_of (de_o (do_lc (own := [(("k" : Str), 3)]) rfl hN (di_range1 T.b_range (da_cons (db_name (pv 2)) da_nil)) (blkOk_by rfl) (fun _ _ _ _ _ => (pg_name (i := 3) hN rfl (by first | exact .inl rfl | exact .inr rfl))) (gs_name (i := 3)) (by decide) (fun _ _ _ _ _ => dts_nil) (fun _ _ _ _ _ => (de_o (do_call c__law_pick (by decide) hr takes0 rfl (da_cons (db_name (pv 0)) (da_cons (db_of (de_name (pv 1))) da_nil))))))))))))
theorem p__law_tables {f : Addr} {fd : FuncData} (F : Fun K "_law_tables" "_law_tables" s__law_tables f fd) (T : Txt K mg) (c__law_draw : DefOk P w K mg base 1 "_law_draw" 2 f__law_draw) (c__law_keys : DefOk P w K mg base 3 "_law_keys" 2 f__law_keys) : FnOk P w K mg base (L2.CX P w) 4 f fd ["pen", "signs", "most", "words"] (spD ⟨K, mg⟩ 4 f__law_tables) :=
  u__law_tables ▸ fn_def F sc__law_tables fun cdv A outer s H vs E hr => by
    have hu : (A.deeper (envOfC "_law_tables" (defScope s__law_tables) s.heap.objs.size f cdv)).units + 65 < cLine := by have := hr.un; omega
    have hu1 : (A.deeper (envOfC "_law_tables" (defScope s__law_tables) s.heap.objs.size f cdv)).units + 1 < cLine := by omega
    have hN := sc__law_tables.nd
    exact (ds_cons (ds_set (i := 4) hN (do_Add rfl (db_of de_int) (db_of (de_o (do_call c__law_draw (by decide) hr tk_cx rfl (da_cons (db_name (pv 0)) (da_cons (db_of (de_name (pv 2))) da_nil)))))))
    (ds_cons (ds_setLc (own := [(("state" : Str), 6)]) rfl hN rfl rfl (sw_true rfl rfl rfl rfl) (di_range1 T.b_range (da_cons (db_name (pv 4)) da_nil)) (blkOk_by rfl) (fun _ _ _ _ _ => (pg_name (i := 6) hN rfl (by first | exact .inl rfl | exact .inr rfl))) (gs_name (i := 6)) (by decide) (fun _ _ _ _ _ => dts_nil) (fun _ _ _ _ _ => (de_o (do_lc (own := [(("sign" : Str), 7)]) rfl hN (di_seq rfl (db_name (pv 1))) (blkOk_by rfl) (fun _ _ _ _ _ => (pg_name (i := 7) hN rfl (by first | exact .inl rfl | exact .inr rfl))) (gs_name (i := 7)) (by decide) (fun _ _ _ _ _ => dts_nil) (fun _ _ _ _ _ => (de_o (do_tup (da_cons (db_of (de_o (do_call c__law_draw (by decide) hr takes0 rfl (da_cons (db_name (pv 0)) (da_cons (db_of (de_name (pv 4))) da_nil))))) (da_cons (db_of (de_o (do_call c__law_keys (by decide) hr takes0 rfl (da_cons (db_name (pv 0)) (da_cons (db_of (de_name (pv 3))) da_nil))))) da_nil)))))))))
    (ds_one (ds_ret (do_tup (da_cons (db_of (de_name (pv 5))) (da_cons (db_of (de_o (do_lc (own := [(("state" : Str), 6)]) rfl hN (di_range1 T.b_range (da_cons (db_name (pv 4)) da_nil)) (blkOk_by rfl) (fun _ _ _ _ _ => (pg_name (i := 6) hN rfl (by first | exact .inl rfl | exact .inr rfl))) (gs_name (i := 6)) (by decide) (fun _ _ _ _ _ => dts_nil) (fun _ _ _ _ _ => (de_o (do_call c__law_keys (by decide) hr takes0 rfl (da_cons (db_name (pv 0)) (da_cons (db_of (de_name (pv 3))) da_nil)))))))) da_nil)))))))
theorem p_check_rows {f : Addr} {fd : FuncData} (F : Fun K "check_rows" "check_rows" s_check_rows f fd) (T : Txt K mg) (e_BadMachine : ErrMk P w K mg base 1 "BadMachine" ["state", "place"]) : FnOk P w K mg base (L2.CX P w) 3 f fd ["rows"] (spD ⟨K, mg⟩ 1 f_check_rows) :=
  u_check_rows ▸ fn_def F sc_check_rows fun cdv A outer s H vs E hr => by
    have hu : (A.deeper (envOfC "check_rows" (defScope s_check_rows) s.heap.objs.size f cdv)).units + 65 < cLine := by have := hr.un; omega
    have hu1 : (A.deeper (envOfC "check_rows" (defScope s_check_rows) s.heap.objs.size f cdv)).units + 1 < cLine := by omega
    have hN := sc_check_rows.nd
    exact (ds_one (ds_for hp_cx rfl (di_of (di_enum rfl T.b_enumerate (da_cons (db_of (de_name (pv 0))) da_nil))) (pg_tupA rfl (pgs_cons (pg_name (i := 1) hN rfl (by first | exact .inl rfl | exact .inr rfl)) (pgs_cons (pg_name (i := 2) hN rfl (by first | exact .inl rfl | exact .inr rfl)) pgs_nil))) (gs_tup rfl (gss_cons (gs_name (i := 1)) (gss_cons (gs_name (i := 2)) gss_nil)))
    (dss_fg (ds_one (ds_for hp_cx rfl (di_of (di_enum rfl T.b_enumerate (da_cons (db_of (de_name (pv 2))) da_nil))) (pg_tupA rfl (pgs_cons (pg_name (i := 3) hN rfl (by first | exact .inl rfl | exact .inr rfl)) (pgs_cons (pg_name (i := 4) hN rfl (by first | exact .inl rfl | exact .inr rfl)) pgs_nil))) (gs_tup rfl (gss_cons (gs_name (i := 3)) (gss_cons (gs_name (i := 4)) gss_nil)))
    (dss_fg (ds_one (ds_if (dt_not (dt_ch cm_Le cm_Lt (db_of de_int) (db_of (de_o (do_Ix hu rfl (db_name (pv 4)) (db_of de_int)))) (db_of (de_o (do_len rfl T.b_len (da_cons (db_name (pv 0)) da_nil))))))
    (ds_one (ds_raise e_BadMachine (by decide) hr tk_cx rfl rfl (da_cons (db_of (de_name (pv 1))) (da_cons (db_of (de_name (pv 3))) da_nil))))
    ds_nil))))))))
theorem p_ascending {f : Addr} {fd : FuncData} (F : Fun K "ascending" "ascending" s_ascending f fd) (T : Txt K mg)  : FnOk P w K mg base (L2.CX P w) 1 f fd ["words"] (spD ⟨K, mg⟩ 1 f_ascending) :=
  u_ascending ▸ fn_def F sc_ascending fun cdv A outer s H vs E hr => by
    have hu : (A.deeper (envOfC "ascending" (defScope s_ascending) s.heap.objs.size f cdv)).units + 65 < cLine := by have := hr.un; omega
    have hu1 : (A.deeper (envOfC "ascending" (defScope s_ascending) s.heap.objs.size f cdv)).units + 1 < cLine := by omega
    have hN := sc_ascending.nd
    exact (ds_one (ds_ret (do_tuple rfl T.b_tuple (da_cons (db_of (de_o (do_sorted2 rfl hu rfl T.b_sorted (da_cons (db_of (de_o (do_lc (own := [(("word" : Str), 1)]) rfl hN (di_seq rfl (db_of (de_o (do_dc (own := [(("word" : Str), 1)]) rfl hN (di_seq rfl (db_name (pv 0))) (blkOk_by rfl) (fun _ _ _ _ _ => (pg_name (i := 1) hN rfl (by first | exact .inl rfl | exact .inr rfl))) (gs_name (i := 1)) (by decide) (fun _ _ _ _ _ => dts_nil) (fun _ _ _ _ _ => (de_name (pv 1))) (fun _ _ _ _ _ => de_bl))))) (blkOk_by rfl) (fun _ _ _ _ _ => (pg_name (i := 1) hN rfl (by first | exact .inl rfl | exact .inr rfl))) (gs_name (i := 1)) (by decide) (fun _ _ _ _ _ => dts_nil) (fun _ _ _ _ _ => (de_o (do_str T.b_str (da_cons (db_name (pv 1)) da_nil))))))) da_nil)))) da_nil))))
theorem p_keys_in {f : Addr} {fd : FuncData} (F : Fun K "keys_in" "keys_in" s_keys_in f fd) (T : Txt K mg) (c_ascending : DefOk P w K mg base 1 "ascending" 1 f_ascending) : FnOk P w K mg base (L2.CX P w) 2 f fd ["rows", "ends"] (spD ⟨K, mg⟩ 2 f_keys_in) :=
  u_keys_in ▸ fn_def F sc_keys_in fun cdv A outer s H vs E hr => by
    have hu : (A.deeper (envOfC "keys_in" (defScope s_keys_in) s.heap.objs.size f cdv)).units + 65 < cLine := by have := hr.un; omega
    have hu1 : (A.deeper (envOfC "keys_in" (defScope s_keys_in) s.heap.objs.size f cdv)).units + 1 < cLine := by omega
    have hN := sc_keys_in.nd
    exact (ds_cons (ds_setLcN (own := [(("row" : Str), 3), (("goal" : Str), 4), (("keys" : Str), 5), (("key" : Str), 6)]) rfl hN rfl rfl (sw_true rfl rfl rfl rfl) (di_seq rfl (db_name (pv 0))) (blkOk_by rfl) (fun _ _ _ _ _ => (pg_name (i := 3) hN rfl (by first | exact .inl rfl | exact .inr rfl))) (gs_name (i := 3)) (by decide) (fun _ _ _ _ _ => dts_nil) (fun _ _ _ _ _ => (de_name (pv 6))) (fun _ _ _ _ _ => (cjs_cons (di_of (di_seq rfl (db_name (pv 3)))) (pg_tupA rfl (pgs_cons (pg_name (i := 4) hN rfl (by first | exact .inl rfl | exact .inr rfl)) (pgs_cons (pg_name (i := 5) hN rfl (by first | exact .inl rfl | exact .inr rfl)) pgs_nil))) dts_nil (cjs_cons (di_of (di_seq rfl (db_name (pv 5)))) (pg_name (i := 6) hN rfl (by first | exact .inl rfl | exact .inr rfl)) dts_nil .nil))) (rdc_cons (gs_tup rfl (gss_cons (gs_name (i := 4)) (gss_cons (gs_name (i := 5)) gss_nil))) (rdc_cons (gs_name (i := 6)) .nil)))
    (ds_one (ds_ret (do_call c_ascending (by decide) hr tk_cx rfl (da_cons (db_of (de_o (do_lst (da_star rfl (db_name (pv 2)) (da_star rfl (db_of (de_o (do_lcN (own := [(("keys" : Str), 5), (("key" : Str), 6)]) rfl hN (di_seq rfl (db_name (pv 1))) (blkOk_by rfl) (fun _ _ _ _ _ => (pg_name (i := 5) hN rfl (by first | exact .inl rfl | exact .inr rfl))) (gs_name (i := 5)) (by decide) (fun _ _ _ _ _ => dts_nil) (fun _ _ _ _ _ => (de_name (pv 6))) (fun _ _ _ _ _ => (cjs_cons (di_of (di_seq rfl (db_name (pv 5)))) (pg_name (i := 6) hN rfl (by first | exact .inl rfl | exact .inr rfl)) dts_nil .nil)) (rdc_cons (gs_name (i := 6)) .nil)))) da_nil))))) da_nil)))))
theorem p_Machine_init_v1 {f : Addr} {fd : FuncData} (F : Fun K "__init__" "Machine.__init__" s_Machine_init_v1 f fd) (T : Txt K mg) (c_check_rows : DefOk P w K mg base 3 "check_rows" 1 f_check_rows) (c_ascending : DefOk P w K mg base 1 "ascending" 1 f_ascending) (c_keys_in : DefOk P w K mg base 2 "keys_in" 2 f_keys_in) (e_TooMany : ErrMk P w K mg base 1 "TooMany" ["what"]) : FnOk P w K mg base (L2.CX P w) 4 f fd ["self", "signs", "rows", "ends"] (spD ⟨K, mg⟩ 4 f_Machine_init_v1) :=
  u_Machine_init_v1 ▸ fn_def F sc_Machine_init_v1 fun cdv A outer s H vs E hr => by
    have hu : (A.deeper (envOfC "Machine.__init__" (defScope s_Machine_init_v1) s.heap.objs.size f cdv)).units + 65 < cLine := by have := hr.un; omega
    have hu1 : (A.deeper (envOfC "Machine.__init__" (defScope s_Machine_init_v1) s.heap.objs.size f cdv)).units + 1 < cLine := by omega
    have hN := sc_Machine_init_v1.nd
    exact (ds_cons (ds_expr (do_call c_check_rows (by decide) hr tk_cx rfl (da_cons (db_of (de_name (pv 2))) da_nil)))
    (ds_cons (ds_fld T.f_signs rfl (pv 0) (de_name (pv 1)))
    (ds_cons (ds_fld T.f_rows rfl (pv 0) (de_o (do_tuple rfl T.b_tuple (da_cons (db_of (de_o (do_lc (own := [(("row" : Str), 4)]) rfl hN (di_seq rfl (db_name (pv 2))) (blkOk_by rfl) (fun _ _ _ _ _ => (pg_name (i := 4) hN rfl (by first | exact .inl rfl | exact .inr rfl))) (gs_name (i := 4)) (by decide) (fun _ _ _ _ _ => dts_nil) (fun _ _ _ _ _ => (de_o (do_tuple rfl T.b_tuple (da_cons (db_of (de_o (do_lc (own := [(("goal" : Str), 5), (("keys" : Str), 6)]) rfl hN (di_seq rfl (db_name (pv 4))) (blkOk_by rfl) (fun _ _ _ _ _ => (pg_tupA rfl (pgs_cons (pg_name (i := 5) hN rfl (by first | exact .inl rfl | exact .inr rfl)) (pgs_cons (pg_name (i := 6) hN rfl (by first | exact .inl rfl | exact .inr rfl)) pgs_nil)))) (gs_tup rfl (gss_cons (gs_name (i := 5)) (gss_cons (gs_name (i := 6)) gss_nil))) (by decide) (fun _ _ _ _ _ => dts_nil) (fun _ _ _ _ _ => (de_o (do_tup (da_cons (db_of (de_name (pv 5))) (da_cons (db_of (de_o (do_call c_ascending (by decide) hr takes0 rfl (da_cons (db_of (de_name (pv 6))) da_nil)))) da_nil)))))))) da_nil))))))) da_nil))))
    (ds_cons (ds_fld T.f_ends rfl (pv 0) (de_o (do_tuple rfl T.b_tuple (da_cons (db_of (de_o (do_lc (own := [(("keys" : Str), 6)]) rfl hN (di_seq rfl (db_name (pv 3))) (blkOk_by rfl) (fun _ _ _ _ _ => (pg_name (i := 6) hN rfl (by first | exact .inl rfl | exact .inr rfl))) (gs_name (i := 6)) (by decide) (fun _ _ _ _ _ => dts_nil) (fun _ _ _ _ _ => (de_o (do_call c_ascending (by decide) hr takes0 rfl (da_cons (db_of (de_name (pv 6))) da_nil))))))) da_nil))))
    (ds_cons (ds_fld T.f_all_keys rfl (pv 0) (de_o (do_call c_keys_in (by decide) hr tk_cx rfl (da_cons (db_of (de_o (do_fld T.f_rows rfl (db_name (pv 0))))) (da_cons (db_of (de_o (do_fld T.f_ends rfl (db_name (pv 0))))) da_nil)))))
    (ds_one (ds_if (dt_cm cm_Gt (db_of (de_o (do_len rfl T.b_len (da_cons (db_of (de_o (do_fld T.f_all_keys rfl (db_name (pv 0))))) da_nil)))) (db_of (de_g T.g_MOST_KEYS)))
    (ds_one (ds_raise e_TooMany (by decide) hr tk_cx rfl rfl (da_cons (db_of de_str) da_nil)))
    ds_nil)))))))
theorem p_way_of {f : Addr} {fd : FuncData} (F : Fun K "way_of" "way_of" s_way_of f fd) (T : Txt K mg)  : FnOk P w K mg base (L2.CX P w) 1 f fd ["machine", "state", "sign"] (spD ⟨K, mg⟩ 3 f_way_of) :=
  u_way_of ▸ fn_def F sc_way_of fun cdv A outer s H vs E hr => by
    have hu : (A.deeper (envOfC "way_of" (defScope s_way_of) s.heap.objs.size f cdv)).units + 65 < cLine := by have := hr.un; omega
    have hu1 : (A.deeper (envOfC "way_of" (defScope s_way_of) s.heap.objs.size f cdv)).units + 1 < cLine := by omega
    have hN := sc_way_of.nd
    exact (ds_one (ds_ret (do_Ix hu rfl (db_of (de_o (do_Ix hu rfl (db_of (de_o (do_fld T.f_rows rfl (db_name (pv 0))))) (db_name (pv 1))))) (db_of (de_o (do_idxS rfl (db_of (de_o (do_fld T.f_signs rfl (db_name (pv 0))))) (db_name (pv 2))))))))
theorem p_first_text {f : Addr} {fd : FuncData} (F : Fun K "first_text" "first_text" s_first_text f fd) (T : Txt K mg)  : FnF P w K mg base 3 2 f fd ["signs", "begun", "goal_of", "is_wanted"] f_first_text :=
  fn_defF (N := ["signs", "begun", "goal_of", "is_wanted", "nodes", "texts", "place", "sign", "goal", "#0", "#1", "#2", "#3", "#4", "#5", "#6", "#7"]) (u := 5) (body := d_first_text) F sc_first_text (ghF_by (by decide +kernel)) fun cdv A outer s H E fas fit hA hr => by
    have hu : (A.deeper (envOfC "first_text" (defScope s_first_text) s.heap.objs.size f cdv)).units + 65 < cLine := by have := hr.un; omega
    have hu1 : (A.deeper (envOfC "first_text" (defScope s_first_text) s.heap.objs.size f cdv)).units + 1 < cLine := by omega
    have hN := sc_first_text.nd
    exact (ds_cons (ds_par (i := 4) (j := 5) rfl hN (do_lst (da_cons (db_of (de_name (pv 1))) da_nil)) (do_lst (da_cons (db_of de_str) da_nil)))
    (ds_cons (ds_set (i := 6) hN (do_of de_int))
    (ds_cons (ds_while fuel hp_cx (dt_cm cm_Lt (db_name (pv 6)) (db_of (de_o (do_len rfl T.b_len (da_cons (db_name (pv 4)) da_nil)))))
    (ds_cons (ds_if (dt_o (do_callW fit hA rfl (show 2 ≤ 2 by decide) hr tk_cx rfl rfl (by first | exact .inl rfl | exact .inr (.inl rfl) | exact .inr (.inr rfl)) (da_cons (db_of (de_o (do_Ix hu rfl (db_name (pv 4)) (db_name (pv 6))))) da_nil)))
    (ds_one (ds_ret (do_Ix hu rfl (db_name (pv 5)) (db_name (pv 6)))))
    ds_nil)
    (ds_cons (ds_for hp_cx rfl (di_of (di_seq rfl (db_of (de_name (pv 0))))) (pg_name (i := 7) hN rfl (by first | exact .inl rfl | exact .inr rfl)) (gs_name (i := 7))
    (dss_fg (ds_cons (ds_set (i := 8) hN (do_callW fit hA rfl (show 2 ≤ 2 by decide) hr tk_cx rfl rfl (by first | exact .inl rfl | exact .inr (.inl rfl) | exact .inr (.inr rfl)) (da_cons (db_of (de_o (do_Ix hu rfl (db_name (pv 4)) (db_name (pv 6))))) (da_cons (db_of (de_name (pv 7))) da_nil))))
    (ds_one (ds_if (dt_cm (cm_Nin hu rfl) (db_name (pv 8)) (db_name (pv 4)))
    (ds_cons (ds_expr (do_app (pv 4) (da_cons (db_of (de_name (pv 8))) da_nil)))
    (ds_one (ds_expr (do_app (pv 5) (da_cons (db_of (de_o (do_Add rfl (db_of (de_o (do_Ix hu rfl (db_name (pv 5)) (db_name (pv 6))))) (db_name (pv 7))))) da_nil)))))
    ds_nil)))))
    (ds_one (ds_aug ip_add hN de_int)))))
    (ds_one (ds_ret (do_of de_non))))))
abbrev i_silent_goal_of : Stmt := (defBody s_silent).getD 0 (.Pass ⟨0, 0, 0, 0⟩)
theorem p_silent {f cd : Addr} {fd : FuncData} (F : Fun K "silent" "silent" s_silent f fd) (hc : fd.code = .ref cd) (tb : LamX.TabB base mg cd tPsilent) (T : Txt K mg) (c_way_of : DefOk P w K mg base 1 "way_of" 3 f_way_of) (c_first_text : DefFk P w K mg base 3 2 "first_text" 4 f_first_text) : FnOk P w K mg base (L2.CX P w) 4 f fd ["machine"] (spD ⟨K, mg⟩ 1 f_silent) :=
  u_silent ▸ fn_defL F hc sc_silent fun A outer s H vs E hr => by
    have hu : (A.deeper (envOfC "silent" (defScope s_silent) s.heap.objs.size f (.ref cd))).units + 65 < cLine := by have := hr.un; omega
    have hu1 : (A.deeper (envOfC "silent" (defScope s_silent) s.heap.objs.size f (.ref cd))).units + 1 < cLine := by omega
    have hN := sc_silent.nd
    exact (ds_ndef (st := i_silent_goal_of) (i := 1) rfl tb rfl tIsilent (show nmsilent 144 4 = (("silent" : Str) ++ ".<locals>.") ++ "goal_of" by decide +kernel) tUsilent (fr_by (out := defScope s_silent) (by decide +kernel)) rfl rfl rfl hN rfl (by first | exact .inl rfl | exact .inr rfl) (by first | exact .inl rfl | exact .inr rfl) (fun h1 c1 =>
    (ds_one (ds_ret (do_callF c_first_text (by decide) hr tk_cx rfl (fss_cons (fspec_def (st := i_silent_goal_of) (f0 := h1) (c' := c1) (N := ["node", "sign", "machine", "goal", "keys"]) (ps := ["node", "sign"]) (fr := ["machine"]) (js := [0]) (k := 1) (d := d_silent_goal_of) (NdefX.nscope_by (by decide +kernel)) (fun Fn doc pm ctv us he hl => by obtain ⟨n1, n2, n3, n4, n5, n6, n7⟩ := Fn; have he : n3 = _ := he; subst he; exact match us, hl with | [_, _], _ => rfl) (fr_by (out := defScope s_silent) (by decide +kernel)) (by decide +kernel) rfl (fun Fn f A outer s H zs E he hr => by obtain ⟨n1, n2, n3, n4, n5, n6, n7⟩ := Fn; have he : n5 = _ := he; subst he; have hN : (["node", "sign", "machine", "goal", "keys"] : List Str).Nodup := (by decide +kernel); have hu := hu65 hr; have hu1 := hu01 hr; exact (ds_cons (ds_asg (de_o (do_call c_way_of (by decide) hr tk_ncx rfl (da_cons (db_of (de_name (pv 2))) (da_cons (db_of (de_o (do_Ix hu rfl (db_name (pv 0)) (db_of de_int)))) (da_cons (db_of (de_name (pv 1))) da_nil))))) (pg_tupA rfl (pgs_cons (pg_name (i := 3) hN rfl (by first | exact .inl rfl | exact .inr rfl)) (pgs_cons (pg_name (i := 4) hN rfl (by first | exact .inl rfl | exact .inr rfl)) pgs_nil))) (gs_tup rfl (gss_cons (gs_name (i := 3)) (gss_cons (gs_name (i := 4)) gss_nil))))
    (ds_one (ds_ret (do_tup (da_cons (db_of (de_name (pv 3))) (da_cons (db_of (de_o (do_or (do_Ix hu rfl (db_name (pv 0)) (db_of de_int)) (do_one (do_cm cm_Gt (db_of (de_o (do_len rfl T.b_len (da_cons (db_name (pv 4)) da_nil)))) (db_of de_int)))))) da_nil))))))))
      (fss_cons (fspec_lam (N := ["node", "machine"]) (ps := ["node"]) (fr := ["machine"]) (js := [0]) (k := 1) (fe := e_silent_l1) (NdefX.nscope_by (by decide +kernel)) (fun qn cl pm cv ctv us hl => by exact match us, hl with | [_], _ => rfl) (fr_by (out := defScope s_silent) (by decide +kernel)) (by decide +kernel) rfl (fun Fn f A outer s H zs E he hr => by obtain ⟨n1, n2, n3, n4, n5, n6, n7⟩ := Fn; have he : n5 = _ := he; subst he; have hN : (["node", "machine"] : List Str).Nodup := (by decide +kernel); have hu := hu65 hr; have hu1 := hu01 hr; exact (do_and (do_not (do_Ix hu rfl (db_name (pv 0)) (db_of de_int))) (do_one (do_cm (cm_Eq hu rfl) (db_of (de_o (do_len rfl T.b_len (da_cons (db_of (de_o (do_Ix hu rfl (db_of (de_o (do_fld T.f_ends rfl (db_name (pv 1))))) (db_of (de_o (do_Ix hu rfl (db_name (pv 0)) (db_of de_int))))))) da_nil)))) (db_of de_int))))))
      fss_nil)) (daf_cons (db_of (de_o (do_fld T.f_signs rfl (db_name (pv 0))))) (daf_cons (db_of (de_o (do_tup (da_cons (db_of de_int) (da_cons (db_of de_bl) da_nil))))) (daf_end (dfs_cons (df_name (pv 1)) (dfs_cons (df_lam tb rfl tIsilent (show nmsilent 147 58 = (("silent" : Str) ++ ".<locals>.") ++ "<lambda>" by decide +kernel) tUsilent rfl (fr_by (out := defScope s_silent) (by decide +kernel))) dfs_nil))))))))))
theorem p__law_has {f : Addr} {fd : FuncData} (F : Fun K "_law_has" "_law_has" s__law_has f fd) (T : Txt K mg)  : FnOk P w K mg base (L2.CX P w) 1 f fd ["keys", "key"] (spD ⟨K, mg⟩ 2 f__law_has) :=
  u__law_has ▸ fn_def F sc__law_has fun cdv A outer s H vs E hr => by
    have hu : (A.deeper (envOfC "_law_has" (defScope s__law_has) s.heap.objs.size f cdv)).units + 65 < cLine := by have := hr.un; omega
    have hu1 : (A.deeper (envOfC "_law_has" (defScope s__law_has) s.heap.objs.size f cdv)).units + 1 < cLine := by omega
    have hN := sc__law_has.nd
    exact (ds_one (ds_ret (do_if (dt_cm cm_Isn (db_name (pv 1)) (db_of de_non)) (do_cm (cm_In hu rfl) (db_name (pv 1)) (db_name (pv 0))) (do_cm cm_Gt (db_of (de_o (do_len rfl T.b_len (da_cons (db_name (pv 0)) da_nil)))) (db_of de_int)))))
theorem p__law_first {f : Addr} {fd : FuncData} (F : Fun K "_law_first" "_law_first" s__law_first f fd) (T : Txt K mg) (c__law_has : DefOk P w K mg base 1 "_law_has" 2 f__law_has) : FnOk P w K mg base (L2.CX P w) 2 f fd ["signs", "tables", "key"] (spD ⟨K, mg⟩ 3 f__law_first) :=
  u__law_first ▸ fn_def F sc__law_first fun cdv A outer s H vs E hr => by
    have hu : (A.deeper (envOfC "_law_first" (defScope s__law_first) s.heap.objs.size f cdv)).units + 65 < cLine := by have := hr.un; omega
    have hu1 : (A.deeper (envOfC "_law_first" (defScope s__law_first) s.heap.objs.size f cdv)).units + 1 < cLine := by omega
    have hN := sc__law_first.nd
    exact (ds_cons (ds_par3 (i := 3) (j := 4) (l := 5) rfl hN (do_lst (da_cons (db_of (de_o (do_tup (da_cons (db_of de_int) (da_cons (db_of de_bl) da_nil))))) da_nil)) (do_lst (da_cons (db_of de_str) da_nil)) (do_of de_int))
    (ds_cons (ds_while fuel hp_cx (dt_cm cm_Lt (db_name (pv 5)) (db_of (de_o (do_len rfl T.b_len (da_cons (db_name (pv 3)) da_nil)))))
    (dss_fg (ds_cons (ds_asg (de_o (do_Ix hu rfl (db_name (pv 3)) (db_name (pv 5)))) (pg_tupA rfl (pgs_cons (pg_name (i := 6) hN rfl (by first | exact .inl rfl | exact .inr rfl)) (pgs_cons (pg_name (i := 7) hN rfl (by first | exact .inl rfl | exact .inr rfl)) pgs_nil))) (gs_tup rfl (gss_cons (gs_name (i := 6)) (gss_cons (gs_name (i := 7)) gss_nil))))
    (ds_cons (ds_set (i := 8) hN (do_list rfl T.b_list (da_cons (db_of (de_o (do_Ix hu rfl (db_of (de_o (do_Ix hu rfl (db_name (pv 1)) (db_of de_int)))) (db_name (pv 6))))) da_nil)))
    (ds_cons (ds_if (dt_cm (cm_Eq hu rfl) (db_of (de_o (do_or (do_of (de_name (pv 7))) (do_one (do_call c__law_has (by decide) hr tk_cx rfl (da_cons (db_of (de_name (pv 8))) (da_cons (db_of (de_name (pv 2))) da_nil))))))) (db_of (de_o (do_cm cm_Isn (db_name (pv 2)) (db_of de_non)))))
    (ds_one (ds_ret (do_Ix hu rfl (db_name (pv 4)) (db_name (pv 5)))))
    ds_nil)
    (ds_cons (ds_for hp_cx rfl (di_of (di_range1 T.b_range (da_cons (db_of (de_o (do_len rfl T.b_len (da_cons (db_name (pv 0)) da_nil)))) da_nil))) (pg_name (i := 9) hN rfl (by first | exact .inl rfl | exact .inr rfl)) (gs_name (i := 9))
    (dss_fg (ds_cons (ds_asg (de_o (do_Ix hu rfl (db_of (de_o (do_Ix hu rfl (db_of (de_o (do_Ix hu rfl (db_name (pv 1)) (db_of de_int)))) (db_name (pv 6))))) (db_name (pv 9)))) (pg_tupA rfl (pgs_cons (pg_name (i := 10) hN rfl (by first | exact .inl rfl | exact .inr rfl)) (pgs_cons (pg_name (i := 11) hN rfl (by first | exact .inl rfl | exact .inr rfl)) pgs_nil))) (gs_tup rfl (gss_cons (gs_name (i := 10)) (gss_cons (gs_name (i := 11)) gss_nil))))
    (ds_cons (ds_set (i := 12) hN (do_tup (da_cons (db_of (de_name (pv 10))) (da_cons (db_of (de_o (do_or (do_of (de_name (pv 7))) (do_one (do_call c__law_has (by decide) hr tk_cx rfl (da_cons (db_of (de_o (do_list rfl T.b_list (da_cons (db_name (pv 11)) da_nil)))) (da_cons (db_of (de_name (pv 2))) da_nil))))))) da_nil))))
    (ds_one (ds_if (dt_cm (cm_Nin hu rfl) (db_name (pv 12)) (db_name (pv 3)))
    (ds_cons (ds_expr (do_app (pv 3) (da_cons (db_of (de_name (pv 12))) da_nil)))
    (ds_one (ds_expr (do_app (pv 4) (da_cons (db_of (de_o (do_Add rfl (db_of (de_o (do_Ix hu rfl (db_name (pv 4)) (db_name (pv 5))))) (db_of (de_o (do_Ix hu rfl (db_name (pv 0)) (db_name (pv 9)))))))) da_nil)))))
    ds_nil))))))
    (ds_one (ds_set (i := 5) hN (do_Add rfl (db_name (pv 5)) (db_of de_int))))))))))
    (ds_one (ds_ret (do_of de_non)))))
theorem p__law_texts {f : Addr} {fd : FuncData} (F : Fun K "_law_texts" "_law_texts" s__law_texts f fd) (T : Txt K mg)  : FnOk P w K mg base (L2.CX P w) 1 f fd ["signs", "most"] (spD ⟨K, mg⟩ 2 f__law_texts) :=
  u__law_texts ▸ fn_def F sc__law_texts fun cdv A outer s H vs E hr => by
    have hu : (A.deeper (envOfC "_law_texts" (defScope s__law_texts) s.heap.objs.size f cdv)).units + 65 < cLine := by have := hr.un; omega
    have hu1 : (A.deeper (envOfC "_law_texts" (defScope s__law_texts) s.heap.objs.size f cdv)).units + 1 < cLine := by omega
    have hN := sc__law_texts.nd
    exact (ds_cons (ds_par (i := 2) (j := 3) rfl hN (do_lst (da_cons (db_of de_str) da_nil)) (do_lst (da_cons (db_of de_str) da_nil)))
    (ds_cons (ds_for hp_cx rfl (di_of (di_range1 T.b_range (da_cons (db_name (pv 1)) da_nil))) (pg_name (i := 4) hN rfl (by first | exact .inl rfl | exact .inr rfl)) (gs_name (i := 4))
    (dss_fg (ds_cons (ds_set (i := 5) hN (do_lst da_nil))
    (ds_cons (ds_for hp_cx rfl (di_of (di_seq rfl (db_of (de_name (pv 3))))) (pg_name (i := 6) hN rfl (by first | exact .inl rfl | exact .inr rfl)) (gs_name (i := 6))
    (dss_fg (ds_one (ds_set (i := 5) hN (do_Add rfl (db_name (pv 5)) (db_of (de_o (do_lc (own := [(("sign" : Str), 7)]) rfl hN (di_seq rfl (db_name (pv 0))) (blkOk_by rfl) (fun _ _ _ _ _ => (pg_name (i := 7) hN rfl (by first | exact .inl rfl | exact .inr rfl))) (gs_name (i := 7)) (by decide) (fun _ _ _ _ _ => dts_nil) (fun _ _ _ _ _ => (de_o (do_Add rfl (db_name (pv 6)) (db_name (pv 7)))))))))))))
    (ds_one (ds_par (i := 2) (j := 3) rfl hN (do_Add rfl (db_name (pv 2)) (db_name (pv 5))) (do_of (de_name (pv 5)))))))))
    (ds_one (ds_ret (do_mv (pv 2))))))
theorem p__law_read_v2 {f : Addr} {fd : FuncData} (F : Fun K "_law_read" "_law_read" s__law_read_v2 f fd) (T : Txt K mg)  : FnOk P w K mg base (L2.CX P w) 1 f fd ["signs", "tables", "text"] (spD ⟨K, mg⟩ 3 f__law_read_v2) :=
  u__law_read_v2 ▸ fn_def F sc__law_read_v2 fun cdv A outer s H vs E hr => by
    have hu : (A.deeper (envOfC "_law_read" (defScope s__law_read_v2) s.heap.objs.size f cdv)).units + 65 < cLine := by have := hr.un; omega
    have hu1 : (A.deeper (envOfC "_law_read" (defScope s__law_read_v2) s.heap.objs.size f cdv)).units + 1 < cLine := by omega
    have hN := sc__law_read_v2.nd
    exact (ds_cons (ds_asg (de_name (pv 1)) (pg_tupA rfl (pgs_cons (pg_name (i := 3) hN rfl (by first | exact .inl rfl | exact .inr rfl)) (pgs_cons (pg_name (i := 4) hN rfl (by first | exact .inl rfl | exact .inr rfl)) pgs_nil))) (gs_tup rfl (gss_cons (gs_name (i := 3)) (gss_cons (gs_name (i := 4)) gss_nil))))
    (ds_cons (ds_par (i := 5) (j := 6) rfl hN (do_of de_int) (do_lst da_nil))
    (ds_cons (ds_for hp_cx rfl (di_of (di_seq rfl (db_of (de_name (pv 2))))) (pg_name (i := 7) hN rfl (by first | exact .inl rfl | exact .inr rfl)) (gs_name (i := 7))
    (dss_fg (ds_cons (ds_asg (de_o (do_Ix hu rfl (db_of (de_o (do_Ix hu rfl (db_name (pv 3)) (db_name (pv 5))))) (db_of (de_o (do_idxS rfl (db_name (pv 0)) (db_name (pv 7))))))) (pg_tupA rfl (pgs_cons (pg_name (i := 5) hN rfl (by first | exact .inl rfl | exact .inr rfl)) (pgs_cons (pg_name (i := 8) hN rfl (by first | exact .inl rfl | exact .inr rfl)) pgs_nil))) (gs_tup rfl (gss_cons (gs_name (i := 5)) (gss_cons (gs_name (i := 8)) gss_nil))))
    (ds_one (ds_set (i := 6) hN (do_Add rfl (db_name (pv 6)) (db_of (de_o (do_list rfl T.b_list (da_cons (db_name (pv 8)) da_nil))))))))))
    (ds_one (ds_ret (do_tup (da_cons (db_of (de_name (pv 5))) (da_cons (db_of (de_o (do_tuple rfl T.b_tuple (da_cons (db_of (de_o (do_sset rfl rfl T.b_sorted T.b_set (db_of (de_o (do_Add rfl (db_name (pv 6)) (db_of (de_o (do_list rfl T.b_list (da_cons (db_of (de_o (do_Ix hu rfl (db_name (pv 4)) (db_name (pv 5))))) da_nil)))))))))) da_nil)))) da_nil))))))))
theorem p__law_are_first {f : Addr} {fd : FuncData} (F : Fun K "_law_are_first" "_law_are_first" s__law_are_first f fd) (T : Txt K mg) (c__law_texts : DefOk P w K mg base 1 "_law_texts" 2 f__law_texts) (c__law_read_v2 : DefOk P w K mg base 1 "_law_read" 3 f__law_read_v2) : FnOk P w K mg base (L2.CX P w) 2 f fd ["signs", "tables", "told", "key"] (spD ⟨K, mg⟩ 4 f__law_are_first) :=
  u__law_are_first ▸ fn_def F sc__law_are_first fun cdv A outer s H vs E hr => by
    have hu : (A.deeper (envOfC "_law_are_first" (defScope s__law_are_first) s.heap.objs.size f cdv)).units + 65 < cLine := by have := hr.un; omega
    have hu1 : (A.deeper (envOfC "_law_are_first" (defScope s__law_are_first) s.heap.objs.size f cdv)).units + 1 < cLine := by omega
    have hN := sc__law_are_first.nd
    exact (ds_cons (ds_for hp_cx rfl (di_of (di_seq rfl (db_of (de_o (do_call c__law_texts (by decide) hr tk_cx rfl (da_cons (db_of (de_name (pv 0))) (da_cons (db_of de_int) da_nil))))))) (pg_name (i := 4) hN rfl (by first | exact .inl rfl | exact .inr rfl)) (gs_name (i := 4))
    (dss_fg (ds_cons (ds_set (i := 5) hN (do_Ix hu rfl (db_of (de_o (do_call c__law_read_v2 (by decide) hr tk_cx rfl (da_cons (db_of (de_name (pv 0))) (da_cons (db_of (de_name (pv 1))) (da_cons (db_of (de_name (pv 4))) da_nil)))))) (db_of de_int)))
    (ds_one (ds_if (dt_if (dt_cm cm_Is (db_name (pv 3)) (db_of de_non)) (dt_cm (cm_Eq hu rfl) (db_name (pv 5)) (db_of (de_o (do_tup da_nil)))) (dt_cm (cm_In hu rfl) (db_name (pv 3)) (db_name (pv 5))))
    (ds_one (ds_ret (do_cm (cm_Eq hu rfl) (db_name (pv 2)) (db_name (pv 4)))))
    ds_nil)))))
    (ds_one (ds_ret (do_or (do_cm cm_Is (db_name (pv 2)) (db_of de_non)) (do_one (do_cm cm_Gt (db_of (de_o (do_len rfl T.b_len (da_cons (db_name (pv 2)) da_nil)))) (db_of de_int)))))))
abbrev i_giving_goal_of : Stmt := (defBody s_giving).getD 0 (.Pass ⟨0, 0, 0, 0⟩)
theorem p_giving {f cd : Addr} {fd : FuncData} (F : Fun K "giving" "giving" s_giving f fd) (hc : fd.code = .ref cd) (tb : LamX.TabB base mg cd tPgiving) (T : Txt K mg) (c_way_of : DefOk P w K mg base 1 "way_of" 3 f_way_of) (c_first_text : DefFk P w K mg base 3 2 "first_text" 4 f_first_text) : FnOk P w K mg base (L2.CX P w) 4 f fd ["machine", "key"] (spD ⟨K, mg⟩ 2 f_giving) :=
  u_giving ▸ fn_defL F hc sc_giving fun A outer s H vs E hr => by
    have hu : (A.deeper (envOfC "giving" (defScope s_giving) s.heap.objs.size f (.ref cd))).units + 65 < cLine := by have := hr.un; omega
    have hu1 : (A.deeper (envOfC "giving" (defScope s_giving) s.heap.objs.size f (.ref cd))).units + 1 < cLine := by omega
    have hN := sc_giving.nd
    exact (ds_ndef (st := i_giving_goal_of) (i := 2) rfl tb rfl tIgiving (show nmgiving 138 4 = (("giving" : Str) ++ ".<locals>.") ++ "goal_of" by decide +kernel) tUgiving (fr_by (out := defScope s_giving) (by decide +kernel)) rfl rfl rfl hN rfl (by first | exact .inl rfl | exact .inr rfl) (by first | exact .inl rfl | exact .inr rfl) (fun h2 c2 =>
    (ds_one (ds_ret (do_callF c_first_text (by decide) hr tk_cx rfl (fss_cons (fspec_def (st := i_giving_goal_of) (f0 := h2) (c' := c2) (N := ["node", "sign", "key", "machine", "goal", "keys"]) (ps := ["node", "sign"]) (fr := ["key", "machine"]) (js := [1, 0]) (k := 1) (d := d_giving_goal_of) (NdefX.nscope_by (by decide +kernel)) (fun Fn doc pm ctv us he hl => by obtain ⟨n1, n2, n3, n4, n5, n6, n7⟩ := Fn; have he : n3 = _ := he; subst he; exact match us, hl with | [_, _], _ => rfl) (fr_by (out := defScope s_giving) (by decide +kernel)) (by decide +kernel) rfl (fun Fn f A outer s H zs E he hr => by obtain ⟨n1, n2, n3, n4, n5, n6, n7⟩ := Fn; have he : n5 = _ := he; subst he; have hN : (["node", "sign", "key", "machine", "goal", "keys"] : List Str).Nodup := (by decide +kernel); have hu := hu65 hr; have hu1 := hu01 hr; exact (ds_cons (ds_asg (de_o (do_call c_way_of (by decide) hr tk_ncx rfl (da_cons (db_of (de_name (pv 3))) (da_cons (db_of (de_o (do_Ix hu rfl (db_name (pv 0)) (db_of de_int)))) (da_cons (db_of (de_name (pv 1))) da_nil))))) (pg_tupA rfl (pgs_cons (pg_name (i := 4) hN rfl (by first | exact .inl rfl | exact .inr rfl)) (pgs_cons (pg_name (i := 5) hN rfl (by first | exact .inl rfl | exact .inr rfl)) pgs_nil))) (gs_tup rfl (gss_cons (gs_name (i := 4)) (gss_cons (gs_name (i := 5)) gss_nil))))
    (ds_one (ds_ret (do_tup (da_cons (db_of (de_name (pv 4))) (da_cons (db_of (de_o (do_or (do_Ix hu rfl (db_name (pv 0)) (db_of de_int)) (do_one (do_cm (cm_In hu rfl) (db_name (pv 2)) (db_name (pv 5))))))) da_nil))))))))
      (fss_cons (fspec_lam (N := ["node", "key", "machine"]) (ps := ["node"]) (fr := ["key", "machine"]) (js := [1, 0]) (k := 1) (fe := e_giving_l1) (NdefX.nscope_by (by decide +kernel)) (fun qn cl pm cv ctv us hl => by exact match us, hl with | [_], _ => rfl) (fr_by (out := defScope s_giving) (by decide +kernel)) (by decide +kernel) rfl (fun Fn f A outer s H zs E he hr => by obtain ⟨n1, n2, n3, n4, n5, n6, n7⟩ := Fn; have he : n5 = _ := he; subst he; have hN : (["node", "key", "machine"] : List Str).Nodup := (by decide +kernel); have hu := hu65 hr; have hu1 := hu01 hr; exact (do_or (do_Ix hu rfl (db_name (pv 0)) (db_of de_int)) (do_one (do_cm (cm_In hu rfl) (db_name (pv 1)) (db_of (de_o (do_Ix hu rfl (db_of (de_o (do_fld T.f_ends rfl (db_name (pv 2))))) (db_of (de_o (do_Ix hu rfl (db_name (pv 0)) (db_of de_int))))))))))))
      fss_nil)) (daf_cons (db_of (de_o (do_fld T.f_signs rfl (db_name (pv 0))))) (daf_cons (db_of (de_o (do_tup (da_cons (db_of de_int) (da_cons (db_of de_bl) da_nil))))) (daf_end (dfs_cons (df_name (pv 2)) (dfs_cons (df_lam tb rfl tIgiving (show nmgiving 141 58 = (("giving" : Str) ++ ".<locals>.") ++ "<lambda>" by decide +kernel) tUgiving rfl (fr_by (out := defScope s_giving) (by decide +kernel))) dfs_nil))))))))))
theorem p_law_v24 {f : Addr} {fd : FuncData} (F : Fun K "law" "law" s_law_v24 f fd) (T : Txt K mg) (c__law_pen : DefOk P w K mg base 1 "_law_pen" 1 f__law_pen) (c__law_signs : DefOk P w K mg base 2 "_law_signs" 2 f__law_signs) (c__law_draw : DefOk P w K mg base 1 "_law_draw" 2 f__law_draw) (c__law_tables : DefOk P w K mg base 4 "_law_tables" 4 f__law_tables) (c_Machine_init_v1 : MakeOk P w K mg base 4 "Machine" 4 f_Machine_init_v1) (c_silent : DefOk P w K mg base 4 "silent" 1 f_silent) (c__law_first : DefOk P w K mg base 2 "_law_first" 3 f__law_first) (c__law_are_first : DefOk P w K mg base 2 "_law_are_first" 4 f__law_are_first) (c_giving : DefOk P w K mg base 4 "giving" 2 f_giving) : FnOk P w K mg base (L2.CX P w) 6 f fd ["script"] (spD ⟨K, mg⟩ 1 f_law_v24) :=
  u_law_v24 ▸ fn_def F sc_law_v24 fun cdv A outer s H vs E hr => by
    have hu : (A.deeper (envOfC "law" (defScope s_law_v24) s.heap.objs.size f cdv)).units + 65 < cLine := by have := hr.un; omega
    have hu1 : (A.deeper (envOfC "law" (defScope s_law_v24) s.heap.objs.size f cdv)).units + 1 < cLine := by omega
    have hN := sc_law_v24.nd
    exact (ds_cons (ds_set (i := 1) hN (do_call c__law_pen (by decide) hr tk_cx rfl (da_cons (db_of (de_name (pv 0))) da_nil)))
    (ds_cons (ds_for hp_cx rfl (di_of (di_range1 T.b_range (da_cons (db_of (de_o (do_Add rfl (db_of de_int) (db_of (de_o (do_min rfl T.b_min (da_cons (db_of de_int) (da_cons (db_of (de_o (do_len rfl T.b_len (da_cons (db_name (pv 0)) da_nil)))) da_nil)))))))) da_nil))) (pg_name (i := 2) hN rfl (by first | exact .inl rfl | exact .inr rfl)) (gs_name (i := 2))
    (dss_fg (ds_cons (ds_par (i := 3) (j := 4) rfl hN (do_call c__law_signs (by decide) hr tk_cx rfl (da_cons (db_name (pv 1)) (da_cons (db_of (de_o (do_Add rfl (db_of de_int) (db_of (de_o (do_call c__law_draw (by decide) hr tk_cx rfl (da_cons (db_name (pv 1)) (da_cons (db_of de_int) da_nil)))))))) da_nil))) (do_lst (da_cons (db_of de_str) (da_cons (db_of de_str) (da_cons (db_of de_str) (da_cons (db_of de_str) da_nil))))))
    (ds_cons (ds_set (i := 5) hN (do_call c__law_tables (by decide) hr tk_cx rfl (da_cons (db_name (pv 1)) (da_cons (db_of (de_name (pv 3))) (da_cons (db_of de_int) (da_cons (db_of (de_o (do_slice rfl (db_name (pv 4)) dp_none (dp_some (do_Add rfl (db_of de_int) (db_of (de_o (do_call c__law_draw (by decide) hr tk_cx rfl (da_cons (db_name (pv 1)) (da_cons (db_of de_int) da_nil)))))))))) da_nil))))))
    (ds_cons (ds_if (dt_cm (cm_Eq hu rfl) (db_of (de_o (do_call c__law_draw (by decide) hr tk_cx rfl (da_cons (db_name (pv 1)) (da_cons (db_of de_int) da_nil))))) (db_of de_int))
    (ds_one (ds_set (i := 5) hN (do_tup (da_cons (db_of (de_o (do_lc (own := [(("row" : Str), 6)]) rfl hN (di_seq rfl (db_of (de_o (do_Ix hu rfl (db_name (pv 5)) (db_of de_int))))) (blkOk_by rfl) (fun _ _ _ _ _ => (pg_name (i := 6) hN rfl (by first | exact .inl rfl | exact .inr rfl))) (gs_name (i := 6)) (by decide) (fun _ _ _ _ _ => dts_nil) (fun _ _ _ _ _ => (de_o (do_lc (own := [(("goal" : Str), 7), (("keys" : Str), 8)]) rfl hN (di_seq rfl (db_name (pv 6))) (blkOk_by rfl) (fun _ _ _ _ _ => (pg_tupA rfl (pgs_cons (pg_name (i := 7) hN rfl (by first | exact .inl rfl | exact .inr rfl)) (pgs_cons (pg_name (i := 8) hN rfl (by first | exact .inl rfl | exact .inr rfl)) pgs_nil)))) (gs_tup rfl (gss_cons (gs_name (i := 7)) (gss_cons (gs_name (i := 8)) gss_nil))) (by decide) (fun _ _ _ _ _ => dts_nil) (fun _ _ _ _ _ => (de_o (do_tup (da_cons (db_of (de_name (pv 7))) (da_cons (db_of (de_o (do_sset rfl rfl T.b_sorted T.b_set (db_of (de_o (do_Add rfl (db_of (de_o (do_list rfl T.b_list (da_cons (db_name (pv 8)) da_nil)))) (db_of (de_o (do_lst (da_cons (db_of de_str) da_nil)))))))))) da_nil))))))))))) (da_cons (db_of (de_o (do_Ix hu rfl (db_name (pv 5)) (db_of de_int)))) da_nil)))))
    ds_nil)
    (ds_cons (ds_set (i := 9) hN (do_make c_Machine_init_v1 (by decide) hr tk_cx rfl (da_cons (db_of (de_name (pv 3))) (da_cons (db_of (de_o (do_Ix hu rfl (db_name (pv 5)) (db_of de_int)))) (da_cons (db_of (de_o (do_Ix hu rfl (db_name (pv 5)) (db_of de_int)))) da_nil)))))
    (ds_cons (ds_set (i := 10) hN (do_call c_silent (by decide) hr tk_cx rfl (da_cons (db_of (de_name (pv 9))) da_nil)))
    (ds_cons (ds_if (dt_bool (dw_or (dt_cm (cm_Ne hu rfl) (db_name (pv 10)) (db_of (de_o (do_call c__law_first (by decide) hr tk_cx rfl (da_cons (db_of (de_name (pv 3))) (da_cons (db_of (de_name (pv 5))) (da_cons (db_of de_non) da_nil))))))) (dw_or1 (dt_not (dt_o (do_call c__law_are_first (by decide) hr tk_cx rfl (da_cons (db_of (de_name (pv 3))) (da_cons (db_of (de_name (pv 5))) (da_cons (db_of (de_name (pv 10))) (da_cons (db_of de_non) da_nil))))))))))
    (ds_one (ds_ret (do_of de_bl)))
    ds_nil)
    (ds_one (ds_for hp_cx rfl (di_of (di_seq rfl (db_of (de_o (do_Add rfl (db_name (pv 4)) (db_of (de_o (do_lst (da_cons (db_of de_str) da_nil))))))))) (pg_name (i := 11) hN rfl (by first | exact .inl rfl | exact .inr rfl)) (gs_name (i := 11))
    (dss_fg (ds_cons (ds_set (i := 10) hN (do_call c_giving (by decide) hr tk_cx rfl (da_cons (db_of (de_name (pv 9))) (da_cons (db_of (de_name (pv 11))) da_nil))))
    (ds_one (ds_if (dt_bool (dw_or (dt_cm (cm_Ne hu rfl) (db_name (pv 10)) (db_of (de_o (do_call c__law_first (by decide) hr tk_cx rfl (da_cons (db_of (de_name (pv 3))) (da_cons (db_of (de_name (pv 5))) (da_cons (db_of (de_name (pv 11))) da_nil))))))) (dw_or1 (dt_not (dt_o (do_call c__law_are_first (by decide) hr tk_cx rfl (da_cons (db_of (de_name (pv 3))) (da_cons (db_of (de_name (pv 5))) (da_cons (db_of (de_name (pv 10))) (da_cons (db_of (de_name (pv 11))) da_nil))))))))))
    (ds_one (ds_ret (do_of de_bl)))
    ds_nil))))))))))))))
    (ds_one (ds_ret (do_of de_bl)))))
end
theorem all_mk {l : PySem.W.OpenLaw} {w : World} {K : PySem.W.Frag} {h : Heap} {mg : Str → Option Value} {fa : Addr} (X : K.In h) (G : h.Ns mainGlobals mg) (hfa : mg "law" = some (.ref fa))
    {CMachine : Addr}
    {tk_MOST_KEYS : Tok}
    {f_law_pen : Addr} {od_law_pen an_law_pen : Option Addr} {sl_law_pen : Array (Option Value)} {oc_law_pen kV_law_pen dc_law_pen pm_law_pen ct_law_pen : Value} {cd_law_pen : Value}
    {f_law_draw : Addr} {od_law_draw an_law_draw : Option Addr} {sl_law_draw : Array (Option Value)} {oc_law_draw kV_law_draw dc_law_draw pm_law_draw ct_law_draw : Value} {cd_law_draw : Value}
    {f_law_signs : Addr} {od_law_signs an_law_signs : Option Addr} {sl_law_signs : Array (Option Value)} {oc_law_signs kV_law_signs dc_law_signs pm_law_signs ct_law_signs : Value} {cd_law_signs : Value}
    {f_law_pick : Addr} {od_law_pick an_law_pick : Option Addr} {sl_law_pick : Array (Option Value)} {oc_law_pick kV_law_pick dc_law_pick pm_law_pick ct_law_pick : Value} {cd_law_pick : Value}
    {f_law_keys : Addr} {od_law_keys an_law_keys : Option Addr} {sl_law_keys : Array (Option Value)} {oc_law_keys kV_law_keys dc_law_keys pm_law_keys ct_law_keys : Value} {cd_law_keys : Value}
    {f_law_tables : Addr} {od_law_tables an_law_tables : Option Addr} {sl_law_tables : Array (Option Value)} {oc_law_tables kV_law_tables dc_law_tables pm_law_tables ct_law_tables : Value} {cd_law_tables : Value}
    {fcheck_rows : Addr} {odcheck_rows ancheck_rows : Option Addr} {slcheck_rows : Array (Option Value)} {occheck_rows kVcheck_rows dccheck_rows pmcheck_rows ctcheck_rows : Value} {cdcheck_rows : Value}
    {fascending : Addr} {odascending anascending : Option Addr} {slascending : Array (Option Value)} {ocascending kVascending dcascending pmascending ctascending : Value} {cdascending : Value}
    {fkeys_in : Addr} {odkeys_in ankeys_in : Option Addr} {slkeys_in : Array (Option Value)} {ockeys_in kVkeys_in dckeys_in pmkeys_in ctkeys_in : Value} {cdkeys_in : Value}
    {fMachine_init_v1 : Addr} {odMachine_init_v1 anMachine_init_v1 : Option Addr} {slMachine_init_v1 : Array (Option Value)} {ocMachine_init_v1 kVMachine_init_v1 dcMachine_init_v1 pmMachine_init_v1 ctMachine_init_v1 : Value} {cdMachine_init_v1 : Value}
    {fway_of : Addr} {odway_of anway_of : Option Addr} {slway_of : Array (Option Value)} {ocway_of kVway_of dcway_of pmway_of ctway_of : Value} {cdway_of : Value}
    {ffirst_text : Addr} {odfirst_text anfirst_text : Option Addr} {slfirst_text : Array (Option Value)} {ocfirst_text kVfirst_text dcfirst_text pmfirst_text ctfirst_text : Value} {cdfirst_text : Value}
    {fsilent : Addr} {odsilent ansilent : Option Addr} {slsilent : Array (Option Value)} {ocsilent kVsilent dcsilent pmsilent ctsilent : Value} {cdsilent : Addr}
    {f_law_has : Addr} {od_law_has an_law_has : Option Addr} {sl_law_has : Array (Option Value)} {oc_law_has kV_law_has dc_law_has pm_law_has ct_law_has : Value} {cd_law_has : Value}
    {f_law_first : Addr} {od_law_first an_law_first : Option Addr} {sl_law_first : Array (Option Value)} {oc_law_first kV_law_first dc_law_first pm_law_first ct_law_first : Value} {cd_law_first : Value}
    {f_law_texts : Addr} {od_law_texts an_law_texts : Option Addr} {sl_law_texts : Array (Option Value)} {oc_law_texts kV_law_texts dc_law_texts pm_law_texts ct_law_texts : Value} {cd_law_texts : Value}
    {f_law_read_v2 : Addr} {od_law_read_v2 an_law_read_v2 : Option Addr} {sl_law_read_v2 : Array (Option Value)} {oc_law_read_v2 kV_law_read_v2 dc_law_read_v2 pm_law_read_v2 ct_law_read_v2 : Value} {cd_law_read_v2 : Value}
    {f_law_are_first : Addr} {od_law_are_first an_law_are_first : Option Addr} {sl_law_are_first : Array (Option Value)} {oc_law_are_first kV_law_are_first dc_law_are_first pm_law_are_first ct_law_are_first : Value} {cd_law_are_first : Value}
    {fgiving : Addr} {odgiving angiving : Option Addr} {slgiving : Array (Option Value)} {ocgiving kVgiving dcgiving pmgiving ctgiving : Value} {cdgiving : Addr}
    {flaw_v24 : Addr} {odlaw_v24 anlaw_v24 : Option Addr} {sllaw_v24 : Array (Option Value)} {oclaw_v24 kVlaw_v24 dclaw_v24 pmlaw_v24 ctlaw_v24 : Value} {cdlaw_v24 : Value}
    {CBadMachine : Addr}
    {CTooMany : Addr}
    {nmBadMachine qBadMachine : Str} {NBadMachine fIBadMachine ccBadMachine cdBadMachine : Addr} {bsBadMachine bmBadMachine sbBadMachine : List Value} {snBadMachine : List Str} {abBadMachine : Bool} {coBadMachine : Option Bool} {ddBadMachine : Option Addr} {k0BadMachine k1BadMachine k2BadMachine k3BadMachine k5BadMachine : Option Value}
    {ocBadMachine kVBadMachine dcBadMachine pmBadMachine ctBadMachine clBadMachine xlBadMachine : Value} {odBadMachine anBadMachine cddBadMachine xdBadMachine : Option Addr} {slBadMachine ccsBadMachine xsBadMachine : Array (Option Value)} {vsBadMachine : Array Value} {cldBadMachine : ClassData}
    {nmTooMany qTooMany : Str} {NTooMany fITooMany ccTooMany cdTooMany : Addr} {bsTooMany bmTooMany sbTooMany : List Value} {snTooMany : List Str} {abTooMany : Bool} {coTooMany : Option Bool} {ddTooMany : Option Addr} {k0TooMany k1TooMany k2TooMany k3TooMany k5TooMany : Option Value}
    {ocTooMany kVTooMany dcTooMany pmTooMany ctTooMany clTooMany xlTooMany : Value} {odTooMany anTooMany cddTooMany xdTooMany : Option Addr} {slTooMany ccsTooMany xsTooMany : Array (Option Value)} {vsTooMany : Array Value} {cldTooMany : ClassData}
    (aCMachine : PySem.W.nsIn K mainGlobals "Machine" = some (some (.ref CMachine)))
    (gCEdits : PySem.W.nsIn K mainGlobals "Edits" = some none)
    (gCReading : PySem.W.nsIn K mainGlobals "Reading" = some none)
    (gCRule : PySem.W.nsIn K mainGlobals "Rule" = some none)
    (gCTable : PySem.W.nsIn K mainGlobals "Table" = some none)
    (g_MOST_KEYS : PySem.W.nsIn K mainGlobals "MOST_KEYS" = some (some (.int 12 tk_MOST_KEYS)))
    (b_enumerate : PySem.W.nsIn K mainGlobals "enumerate" = some none)
    (b_int : PySem.W.nsIn K mainGlobals "int" = some none)
    (b_len : PySem.W.nsIn K mainGlobals "len" = some none)
    (b_list : PySem.W.nsIn K mainGlobals "list" = some none)
    (b_min : PySem.W.nsIn K mainGlobals "min" = some none)
    (b_range : PySem.W.nsIn K mainGlobals "range" = some none)
    (b_set : PySem.W.nsIn K mainGlobals "set" = some none)
    (b_sorted : PySem.W.nsIn K mainGlobals "sorted" = some none)
    (b_str : PySem.W.nsIn K mainGlobals "str" = some none)
    (b_tuple : PySem.W.nsIn K mainGlobals "tuple" = some none)
    (a_law_pen : PySem.W.nsIn K mainGlobals "_law_pen" = some (some (.ref f_law_pen)))
    (l_law_pen : K.lookup f_law_pen = some ⟨oc_law_pen, od_law_pen, .func (PySem.W.fnOf "_law_pen" "_law_pen" (defArgs s__law_pen) (defBody s__law_pen) (defScope s__law_pen) .none kV_law_pen dc_law_pen pm_law_pen an_law_pen cd_law_pen ct_law_pen), sl_law_pen⟩)
    (c_law_pen : PySem.W.codeIn K cd_law_pen "_law_pen" = true)
    (k_law_pen : PySem.W.keepIn K (.ref f_law_pen) = true)
    (a_law_draw : PySem.W.nsIn K mainGlobals "_law_draw" = some (some (.ref f_law_draw)))
    (l_law_draw : K.lookup f_law_draw = some ⟨oc_law_draw, od_law_draw, .func (PySem.W.fnOf "_law_draw" "_law_draw" (defArgs s__law_draw) (defBody s__law_draw) (defScope s__law_draw) .none kV_law_draw dc_law_draw pm_law_draw an_law_draw cd_law_draw ct_law_draw), sl_law_draw⟩)
    (c_law_draw : PySem.W.codeIn K cd_law_draw "_law_draw" = true)
    (k_law_draw : PySem.W.keepIn K (.ref f_law_draw) = true)
    (a_law_signs : PySem.W.nsIn K mainGlobals "_law_signs" = some (some (.ref f_law_signs)))
    (l_law_signs : K.lookup f_law_signs = some ⟨oc_law_signs, od_law_signs, .func (PySem.W.fnOf "_law_signs" "_law_signs" (defArgs s__law_signs) (defBody s__law_signs) (defScope s__law_signs) .none kV_law_signs dc_law_signs pm_law_signs an_law_signs cd_law_signs ct_law_signs), sl_law_signs⟩)
    (c_law_signs : PySem.W.codeIn K cd_law_signs "_law_signs" = true)
    (k_law_signs : PySem.W.keepIn K (.ref f_law_signs) = true)
    (a_law_pick : PySem.W.nsIn K mainGlobals "_law_pick" = some (some (.ref f_law_pick)))
    (l_law_pick : K.lookup f_law_pick = some ⟨oc_law_pick, od_law_pick, .func (PySem.W.fnOf "_law_pick" "_law_pick" (defArgs s__law_pick) (defBody s__law_pick) (defScope s__law_pick) .none kV_law_pick dc_law_pick pm_law_pick an_law_pick cd_law_pick ct_law_pick), sl_law_pick⟩)
    (c_law_pick : PySem.W.codeIn K cd_law_pick "_law_pick" = true)
    (k_law_pick : PySem.W.keepIn K (.ref f_law_pick) = true)
    (a_law_keys : PySem.W.nsIn K mainGlobals "_law_keys" = some (some (.ref f_law_keys)))
    (l_law_keys : K.lookup f_law_keys = some ⟨oc_law_keys, od_law_keys, .func (PySem.W.fnOf "_law_keys" "_law_keys" (defArgs s__law_keys) (defBody s__law_keys) (defScope s__law_keys) .none kV_law_keys dc_law_keys pm_law_keys an_law_keys cd_law_keys ct_law_keys), sl_law_keys⟩)
    (c_law_keys : PySem.W.codeIn K cd_law_keys "_law_keys" = true)
    (k_law_keys : PySem.W.keepIn K (.ref f_law_keys) = true)
    (a_law_tables : PySem.W.nsIn K mainGlobals "_law_tables" = some (some (.ref f_law_tables)))
    (l_law_tables : K.lookup f_law_tables = some ⟨oc_law_tables, od_law_tables, .func (PySem.W.fnOf "_law_tables" "_law_tables" (defArgs s__law_tables) (defBody s__law_tables) (defScope s__law_tables) .none kV_law_tables dc_law_tables pm_law_tables an_law_tables cd_law_tables ct_law_tables), sl_law_tables⟩)
    (c_law_tables : PySem.W.codeIn K cd_law_tables "_law_tables" = true)
    (k_law_tables : PySem.W.keepIn K (.ref f_law_tables) = true)
    (acheck_rows : PySem.W.nsIn K mainGlobals "check_rows" = some (some (.ref fcheck_rows)))
    (lcheck_rows : K.lookup fcheck_rows = some ⟨occheck_rows, odcheck_rows, .func (PySem.W.fnOf "check_rows" "check_rows" (defArgs s_check_rows) (defBody s_check_rows) (defScope s_check_rows) .none kVcheck_rows dccheck_rows pmcheck_rows ancheck_rows cdcheck_rows ctcheck_rows), slcheck_rows⟩)
    (ccheck_rows : PySem.W.codeIn K cdcheck_rows "check_rows" = true)
    (kcheck_rows : PySem.W.keepIn K (.ref fcheck_rows) = true)
    (aascending : PySem.W.nsIn K mainGlobals "ascending" = some (some (.ref fascending)))
    (lascending : K.lookup fascending = some ⟨ocascending, odascending, .func (PySem.W.fnOf "ascending" "ascending" (defArgs s_ascending) (defBody s_ascending) (defScope s_ascending) .none kVascending dcascending pmascending anascending cdascending ctascending), slascending⟩)
    (cascending : PySem.W.codeIn K cdascending "ascending" = true)
    (kascending : PySem.W.keepIn K (.ref fascending) = true)
    (akeys_in : PySem.W.nsIn K mainGlobals "keys_in" = some (some (.ref fkeys_in)))
    (lkeys_in : K.lookup fkeys_in = some ⟨ockeys_in, odkeys_in, .func (PySem.W.fnOf "keys_in" "keys_in" (defArgs s_keys_in) (defBody s_keys_in) (defScope s_keys_in) .none kVkeys_in dckeys_in pmkeys_in ankeys_in cdkeys_in ctkeys_in), slkeys_in⟩)
    (ckeys_in : PySem.W.codeIn K cdkeys_in "keys_in" = true)
    (kkeys_in : PySem.W.keepIn K (.ref fkeys_in) = true)
    (aMachine_init_v1 : PySem.W.findIn K (.ref CMachine) "__init__" = some (some (.ref fMachine_init_v1)))
    (iMachine_init_v1 : PySem.W.isFn K (.ref fMachine_init_v1) = true)
    (lMachine_init_v1 : K.lookup fMachine_init_v1 = some ⟨ocMachine_init_v1, odMachine_init_v1, .func (PySem.W.fnOf "__init__" "Machine.__init__" (defArgs s_Machine_init_v1) (defBody s_Machine_init_v1) (defScope s_Machine_init_v1) .none kVMachine_init_v1 dcMachine_init_v1 pmMachine_init_v1 anMachine_init_v1 cdMachine_init_v1 ctMachine_init_v1), slMachine_init_v1⟩)
    (cMachine_init_v1 : PySem.W.codeIn K cdMachine_init_v1 "Machine.__init__" = true)
    (kMachine_init_v1 : PySem.W.keepIn K (.ref fMachine_init_v1) = true)
    (away_of : PySem.W.nsIn K mainGlobals "way_of" = some (some (.ref fway_of)))
    (lway_of : K.lookup fway_of = some ⟨ocway_of, odway_of, .func (PySem.W.fnOf "way_of" "way_of" (defArgs s_way_of) (defBody s_way_of) (defScope s_way_of) .none kVway_of dcway_of pmway_of anway_of cdway_of ctway_of), slway_of⟩)
    (cway_of : PySem.W.codeIn K cdway_of "way_of" = true)
    (kway_of : PySem.W.keepIn K (.ref fway_of) = true)
    (afirst_text : PySem.W.nsIn K mainGlobals "first_text" = some (some (.ref ffirst_text)))
    (lfirst_text : K.lookup ffirst_text = some ⟨ocfirst_text, odfirst_text, .func (PySem.W.fnOf "first_text" "first_text" (defArgs s_first_text) (defBody s_first_text) (defScope s_first_text) .none kVfirst_text dcfirst_text pmfirst_text anfirst_text cdfirst_text ctfirst_text), slfirst_text⟩)
    (cfirst_text : PySem.W.codeIn K cdfirst_text "first_text" = true)
    (kfirst_text : PySem.W.keepIn K (.ref ffirst_text) = true)
    (asilent : PySem.W.nsIn K mainGlobals "silent" = some (some (.ref fsilent)))
    (lsilent : K.lookup fsilent = some ⟨ocsilent, odsilent, .func (PySem.W.fnOf "silent" "silent" (defArgs s_silent) (defBody s_silent) (defScope s_silent) .none kVsilent dcsilent pmsilent ansilent (.ref cdsilent) ctsilent), slsilent⟩)
    (csilent : PySem.W.codeIn K (.ref cdsilent) "silent" = true)
    (ksilent : PySem.W.keepIn K (.ref fsilent) = true)
    (a_law_has : PySem.W.nsIn K mainGlobals "_law_has" = some (some (.ref f_law_has)))
    (l_law_has : K.lookup f_law_has = some ⟨oc_law_has, od_law_has, .func (PySem.W.fnOf "_law_has" "_law_has" (defArgs s__law_has) (defBody s__law_has) (defScope s__law_has) .none kV_law_has dc_law_has pm_law_has an_law_has cd_law_has ct_law_has), sl_law_has⟩)
    (c_law_has : PySem.W.codeIn K cd_law_has "_law_has" = true)
    (k_law_has : PySem.W.keepIn K (.ref f_law_has) = true)
    (a_law_first : PySem.W.nsIn K mainGlobals "_law_first" = some (some (.ref f_law_first)))
    (l_law_first : K.lookup f_law_first = some ⟨oc_law_first, od_law_first, .func (PySem.W.fnOf "_law_first" "_law_first" (defArgs s__law_first) (defBody s__law_first) (defScope s__law_first) .none kV_law_first dc_law_first pm_law_first an_law_first cd_law_first ct_law_first), sl_law_first⟩)
    (c_law_first : PySem.W.codeIn K cd_law_first "_law_first" = true)
    (k_law_first : PySem.W.keepIn K (.ref f_law_first) = true)
    (a_law_texts : PySem.W.nsIn K mainGlobals "_law_texts" = some (some (.ref f_law_texts)))
    (l_law_texts : K.lookup f_law_texts = some ⟨oc_law_texts, od_law_texts, .func (PySem.W.fnOf "_law_texts" "_law_texts" (defArgs s__law_texts) (defBody s__law_texts) (defScope s__law_texts) .none kV_law_texts dc_law_texts pm_law_texts an_law_texts cd_law_texts ct_law_texts), sl_law_texts⟩)
    (c_law_texts : PySem.W.codeIn K cd_law_texts "_law_texts" = true)
    (k_law_texts : PySem.W.keepIn K (.ref f_law_texts) = true)
    (a_law_read_v2 : PySem.W.nsIn K mainGlobals "_law_read" = some (some (.ref f_law_read_v2)))
    (l_law_read_v2 : K.lookup f_law_read_v2 = some ⟨oc_law_read_v2, od_law_read_v2, .func (PySem.W.fnOf "_law_read" "_law_read" (defArgs s__law_read_v2) (defBody s__law_read_v2) (defScope s__law_read_v2) .none kV_law_read_v2 dc_law_read_v2 pm_law_read_v2 an_law_read_v2 cd_law_read_v2 ct_law_read_v2), sl_law_read_v2⟩)
    (c_law_read_v2 : PySem.W.codeIn K cd_law_read_v2 "_law_read" = true)
    (k_law_read_v2 : PySem.W.keepIn K (.ref f_law_read_v2) = true)
    (a_law_are_first : PySem.W.nsIn K mainGlobals "_law_are_first" = some (some (.ref f_law_are_first)))
    (l_law_are_first : K.lookup f_law_are_first = some ⟨oc_law_are_first, od_law_are_first, .func (PySem.W.fnOf "_law_are_first" "_law_are_first" (defArgs s__law_are_first) (defBody s__law_are_first) (defScope s__law_are_first) .none kV_law_are_first dc_law_are_first pm_law_are_first an_law_are_first cd_law_are_first ct_law_are_first), sl_law_are_first⟩)
    (c_law_are_first : PySem.W.codeIn K cd_law_are_first "_law_are_first" = true)
    (k_law_are_first : PySem.W.keepIn K (.ref f_law_are_first) = true)
    (agiving : PySem.W.nsIn K mainGlobals "giving" = some (some (.ref fgiving)))
    (lgiving : K.lookup fgiving = some ⟨ocgiving, odgiving, .func (PySem.W.fnOf "giving" "giving" (defArgs s_giving) (defBody s_giving) (defScope s_giving) .none kVgiving dcgiving pmgiving angiving (.ref cdgiving) ctgiving), slgiving⟩)
    (cgiving : PySem.W.codeIn K (.ref cdgiving) "giving" = true)
    (kgiving : PySem.W.keepIn K (.ref fgiving) = true)
    (alaw_v24 : PySem.W.nsIn K mainGlobals "law" = some (some (.ref flaw_v24)))
    (llaw_v24 : K.lookup flaw_v24 = some ⟨oclaw_v24, odlaw_v24, .func (PySem.W.fnOf "law" "law" (defArgs s_law_v24) (defBody s_law_v24) (defScope s_law_v24) .none kVlaw_v24 dclaw_v24 pmlaw_v24 anlaw_v24 cdlaw_v24 ctlaw_v24), sllaw_v24⟩)
    (claw_v24 : PySem.W.codeIn K cdlaw_v24 "law" = true)
    (klaw_v24 : PySem.W.keepIn K (.ref flaw_v24) = true)
    (aCBadMachine : PySem.W.nsIn K mainGlobals "BadMachine" = some (some (.ref CBadMachine)))
    (aCTooMany : PySem.W.nsIn K mainGlobals "TooMany" = some (some (.ref CTooMany)))
    (oCBadMachine : K.lookup CBadMachine = some (excClassObj nmBadMachine qBadMachine CBadMachine NBadMachine bsBadMachine bmBadMachine true snBadMachine sbBadMachine abBadMachine coBadMachine ddBadMachine k0BadMachine k1BadMachine k2BadMachine k3BadMachine k5BadMachine "ValueError.__new__"))
    (rCBadMachine : PySem.HandSPX.refsVE bmBadMachine = true)
    (cldBadMachine : PySem.W.clsIn K CBadMachine = some cldBadMachine)
    (saEBadMachine : PySem.W.findIn K (.ref CBadMachine) "__setattr__" = some (some (.builtin "object.__setattr__")))
    (gaEBadMachine : PySem.W.findIn K (.ref CBadMachine) "__getattribute__" = some (some (.builtin "BaseException.__getattribute__")))
    (ggEBadMachine : PySem.W.findIn K (.ref CBadMachine) "__getattr__" = some none)
    (hcEBadMachine : PySem.W.findIn K (.ref CBadMachine) "__class__" = some (some (.builtin "object.__class__")))
    (iCEBadMachine : PySem.W.findIn K (.ref CBadMachine) "__init__" = some (some (.ref fIBadMachine)))
    (tyEBadMachine : PySem.W.typeIn K (.ref CBadMachine) = some (.type "type"))
    (kcEBadMachine : PySem.W.keepIn K (.ref CBadMachine) = true)
    (hdEBadMachine : PySem.W.hasDictIn K CBadMachine = true)
    (bxEBadMachine : PySem.W.subIn K (.ref CBadMachine) (.type "BaseException") = some true)
    (veEBadMachine : PySem.W.subIn K (.ref CBadMachine) (.type "ValueError") = some true)
    (moEBadMachine : PySem.W.mroIn K CBadMachine (.type "object") = some true)
    (msEBadMachine : PySem.W.mroIn K CBadMachine (.ref CBadMachine) = some true)
    (tiEBadMachine : PySem.W.typeIn K (.ref fIBadMachine) = some (.type "function"))
    (lEBadMachine : K.lookup fIBadMachine = some ⟨ocBadMachine, odBadMachine, .func (PySem.W.fnX "__init__" "BadMachine.__init__" (defArgs s_EBadMachine) (defBody s_EBadMachine) (defScope s_EBadMachine) [("__class__", ccBadMachine)] .none kVBadMachine dcBadMachine pmBadMachine anBadMachine (.ref cdBadMachine) ctBadMachine), slBadMachine⟩)
    (cdEBadMachine : PySem.W.codeIn K (.ref cdBadMachine) "BadMachine.__init__" = true)
    (flEBadMachine : K.lookup cdBadMachine = some ⟨clBadMachine, cddBadMachine, .fields vsBadMachine, ccsBadMachine⟩)
    (vsEBadMachine : ∃ file tf, vsBadMachine[2]? = some (.str file tf) ∧ ((l.prog.main.file : Str) == file) = true)
    (ccEBadMachine : K.lookup ccBadMachine = some ⟨xlBadMachine, xdBadMachine, .cell (some (.ref CBadMachine)), xsBadMachine⟩)
    (suEBadMachine : PySem.W.ks_superIn K CBadMachine CBadMachine "__init__" = some (some (.builtin "ValueError.__init__")))
    (fEBadMachine_state : PySem.W.findIn K (.ref CBadMachine) "state" = some none)
    (fEBadMachine_place : PySem.W.findIn K (.ref CBadMachine) "place" = some none)
    (oCTooMany : K.lookup CTooMany = some (excClassObj nmTooMany qTooMany CTooMany NTooMany bsTooMany bmTooMany true snTooMany sbTooMany abTooMany coTooMany ddTooMany k0TooMany k1TooMany k2TooMany k3TooMany k5TooMany "ValueError.__new__"))
    (rCTooMany : PySem.HandSPX.refsVE bmTooMany = true)
    (cldTooMany : PySem.W.clsIn K CTooMany = some cldTooMany)
    (saETooMany : PySem.W.findIn K (.ref CTooMany) "__setattr__" = some (some (.builtin "object.__setattr__")))
    (gaETooMany : PySem.W.findIn K (.ref CTooMany) "__getattribute__" = some (some (.builtin "BaseException.__getattribute__")))
    (ggETooMany : PySem.W.findIn K (.ref CTooMany) "__getattr__" = some none)
    (hcETooMany : PySem.W.findIn K (.ref CTooMany) "__class__" = some (some (.builtin "object.__class__")))
    (iCETooMany : PySem.W.findIn K (.ref CTooMany) "__init__" = some (some (.ref fITooMany)))
    (tyETooMany : PySem.W.typeIn K (.ref CTooMany) = some (.type "type"))
    (kcETooMany : PySem.W.keepIn K (.ref CTooMany) = true)
    (hdETooMany : PySem.W.hasDictIn K CTooMany = true)
    (bxETooMany : PySem.W.subIn K (.ref CTooMany) (.type "BaseException") = some true)
    (veETooMany : PySem.W.subIn K (.ref CTooMany) (.type "ValueError") = some true)
    (moETooMany : PySem.W.mroIn K CTooMany (.type "object") = some true)
    (msETooMany : PySem.W.mroIn K CTooMany (.ref CTooMany) = some true)
    (tiETooMany : PySem.W.typeIn K (.ref fITooMany) = some (.type "function"))
    (lETooMany : K.lookup fITooMany = some ⟨ocTooMany, odTooMany, .func (PySem.W.fnX "__init__" "TooMany.__init__" (defArgs s_ETooMany) (defBody s_ETooMany) (defScope s_ETooMany) [("__class__", ccTooMany)] .none kVTooMany dcTooMany pmTooMany anTooMany (.ref cdTooMany) ctTooMany), slTooMany⟩)
    (cdETooMany : PySem.W.codeIn K (.ref cdTooMany) "TooMany.__init__" = true)
    (flETooMany : K.lookup cdTooMany = some ⟨clTooMany, cddTooMany, .fields vsTooMany, ccsTooMany⟩)
    (vsETooMany : ∃ file tf, vsTooMany[2]? = some (.str file tf) ∧ ((l.prog.main.file : Str) == file) = true)
    (ccETooMany : K.lookup ccTooMany = some ⟨xlTooMany, xdTooMany, .cell (some (.ref CTooMany)), xsTooMany⟩)
    (suETooMany : PySem.W.ks_superIn K CTooMany CTooMany "__init__" = some (some (.builtin "ValueError.__init__")))
    (fETooMany_what : PySem.W.findIn K (.ref CTooMany) "what" = some none)
    (su_BadMachine_BadMachine : PySem.W.subIn K (.ref CBadMachine) (.ref CBadMachine) = some true)
    (su_TooMany_TooMany : PySem.W.subIn K (.ref CTooMany) (.ref CTooMany) = some true)
    (b_super : PySem.W.nsIn K mainGlobals "super" = some none)
    (opq : PySem.W.nsIn K cStatics "thirdparty.any" = some none)
    (toS : (l.prog.main.scope.names.lookup ("super" : Str)).isSome = false)
    (xgc : PySem.W.specialIn K (.builtin "object.__class__") "__get__" = some (some (.builtin "getset_descriptor.__get__")))
    (xtc : PySem.W.takesIn K (.builtin "object.__class__") = some true)
    (pgMachine : PySem.W.plainGet K CMachine Str.empty = true)
    (hdMachine : PySem.W.hasDictIn K CMachine = true)
    (poMachine : PySem.W.plainOver K CMachine = true)
    (saMachine : PySem.W.findIn K (.ref CMachine) "__setattr__" = some (some (.builtin "object.__setattr__")))
    (mkMachine : PySem.W.makesIn K CMachine = true)
    (kcMachine : PySem.W.keepIn K (.ref CMachine) = true)
    (nMachine_all_keys : PySem.W.findIn K (.ref CMachine) "all_keys" = some none)
    (nMachine_ends : PySem.W.findIn K (.ref CMachine) "ends" = some none)
    (nMachine_rows : PySem.W.findIn K (.ref CMachine) "rows" = some none)
    (nMachine_signs : PySem.W.findIn K (.ref CMachine) "signs" = some none) :
    ∃ fd : FuncData, (∀ (s : Shared) (v : Value), BindsTo s fd ⟨[v], []⟩ [("script", v)]) ∧ ∀ base : Heap, K.In base → base.Ns mainGlobals mg → (∀ p ∈ ([(cdsilent, tPsilent), (cdgiving, tPgiving)] : List (Addr × Addr)), LamX.TabB base mg p.1 p.2) → FnOk l.prog w K mg base (L2.CX l.prog w) 6 fa fd ["script"] (spD ⟨K, mg⟩ 1 f_law_v24) := by
  have mCMachine := PySem.W.mg_of X G aCMachine
  have mGEdits := PySem.W.mg_none_of X G gCEdits
  have mGReading := PySem.W.mg_none_of X G gCReading
  have mGRule := PySem.W.mg_none_of X G gCRule
  have mGTable := PySem.W.mg_none_of X G gCTable
  have kMachine : Cls K CMachine := ⟨pgMachine, hdMachine, poMachine, saMachine⟩
  have mEBadMachine := PySem.W.mg_of X G aCBadMachine
  have mETooMany := PySem.W.mg_of X G aCTooMany
  have oxEBadMachine : OexC K CBadMachine := ⟨⟨_, _, _, _, _, _, _, _, _, _, _, _, _, _, _, oCBadMachine, rCBadMachine⟩, saEBadMachine, bxEBadMachine, tyEBadMachine, kcEBadMachine⟩
  have ekEBadMachine : ErrK K CBadMachine := ⟨oxEBadMachine, ⟨gaEBadMachine, ggEBadMachine, bxEBadMachine, hdEBadMachine⟩, ⟨gaEBadMachine, ggEBadMachine, bxEBadMachine, hdEBadMachine, hcEBadMachine, xgc, xtc, moEBadMachine⟩⟩
  have oxETooMany : OexC K CTooMany := ⟨⟨_, _, _, _, _, _, _, _, _, _, _, _, _, _, _, oCTooMany, rCTooMany⟩, saETooMany, bxETooMany, tyETooMany, kcETooMany⟩
  have ekETooMany : ErrK K CTooMany := ⟨oxETooMany, ⟨gaETooMany, ggETooMany, bxETooMany, hdETooMany⟩, ⟨gaETooMany, ggETooMany, bxETooMany, hdETooMany, hcETooMany, xgc, xtc, moETooMany⟩⟩
  have T : Txt K mg := ⟨PySem.W.mg_none_of X G b_enumerate, PySem.W.mg_none_of X G b_int, PySem.W.mg_none_of X G b_len, PySem.W.mg_none_of X G b_list, PySem.W.mg_none_of X G b_min, PySem.W.mg_none_of X G b_range, PySem.W.mg_none_of X G b_set, PySem.W.mg_none_of X G b_sorted, PySem.W.mg_none_of X G b_str, PySem.W.mg_none_of X G b_tuple, ⟨_, PySem.W.mg_of X G g_MOST_KEYS, _, rfl⟩, (FldOk.cons mCMachine kMachine nMachine_all_keys (FldOk.skip mGRule FldOk.nil)), (FldOk.cons mCMachine kMachine nMachine_ends FldOk.nil), (FldOk.cons mCMachine kMachine nMachine_rows (FldOk.skip mGEdits (FldOk.skip mGTable (FldOk.skip mGReading FldOk.nil)))), (FldOk.cons mCMachine kMachine nMachine_signs (FldOk.skip mGRule (FldOk.skip mGEdits (FldOk.skip mGTable FldOk.nil)))), (all_cons (ekEBadMachine.toC mEBadMachine (all_cons fEBadMachine_state (all_cons fEBadMachine_place all_nil)) veEBadMachine) (all_cons (ekETooMany.toC mETooMany (all_cons fETooMany_what all_nil) veETooMany) all_nil))⟩
  have e := hfa.symm.trans (PySem.W.mg_of X G alaw_v24)
  cases e
  have F_law_pen := fun_mk (st := s__law_pen) l_law_pen c_law_pen k_law_pen
  have B_law_pen := F_law_pen.binds (ps := ["script"]) fun _ _ _ _ _ _ us hl => match us, hl with | [_], _ => rfl
  have F_law_draw := fun_mk (st := s__law_draw) l_law_draw c_law_draw k_law_draw
  have B_law_draw := F_law_draw.binds (ps := ["pen", "many"]) fun _ _ _ _ _ _ us hl => match us, hl with | [_, _], _ => rfl
  have F_law_signs := fun_mk (st := s__law_signs) l_law_signs c_law_signs k_law_signs
  have B_law_signs := F_law_signs.binds (ps := ["pen", "many"]) fun _ _ _ _ _ _ us hl => match us, hl with | [_, _], _ => rfl
  have F_law_pick := fun_mk (st := s__law_pick) l_law_pick c_law_pick k_law_pick
  have B_law_pick := F_law_pick.binds (ps := ["pen", "items"]) fun _ _ _ _ _ _ us hl => match us, hl with | [_, _], _ => rfl
  have F_law_keys := fun_mk (st := s__law_keys) l_law_keys c_law_keys k_law_keys
  have B_law_keys := F_law_keys.binds (ps := ["pen", "words"]) fun _ _ _ _ _ _ us hl => match us, hl with | [_, _], _ => rfl
  have F_law_tables := fun_mk (st := s__law_tables) l_law_tables c_law_tables k_law_tables
  have B_law_tables := F_law_tables.binds (ps := ["pen", "signs", "most", "words"]) fun _ _ _ _ _ _ us hl => match us, hl with | [_, _, _, _], _ => rfl
  have Fcheck_rows := fun_mk (st := s_check_rows) lcheck_rows ccheck_rows kcheck_rows
  have Bcheck_rows := Fcheck_rows.binds (ps := ["rows"]) fun _ _ _ _ _ _ us hl => match us, hl with | [_], _ => rfl
  have Fascending := fun_mk (st := s_ascending) lascending cascending kascending
  have Bascending := Fascending.binds (ps := ["words"]) fun _ _ _ _ _ _ us hl => match us, hl with | [_], _ => rfl
  have Fkeys_in := fun_mk (st := s_keys_in) lkeys_in ckeys_in kkeys_in
  have Bkeys_in := Fkeys_in.binds (ps := ["rows", "ends"]) fun _ _ _ _ _ _ us hl => match us, hl with | [_, _], _ => rfl
  have FMachine_init_v1 := fun_mk (st := s_Machine_init_v1) lMachine_init_v1 cMachine_init_v1 kMachine_init_v1
  have BMachine_init_v1 := FMachine_init_v1.binds (ps := ["self", "signs", "rows", "ends"]) fun _ _ _ _ _ _ us hl => match us, hl with | [_, _, _, _], _ => rfl
  have Fway_of := fun_mk (st := s_way_of) lway_of cway_of kway_of
  have Bway_of := Fway_of.binds (ps := ["machine", "state", "sign"]) fun _ _ _ _ _ _ us hl => match us, hl with | [_, _, _], _ => rfl
  have Ffirst_text := fun_mk (st := s_first_text) lfirst_text cfirst_text kfirst_text
  have Bfirst_text := Ffirst_text.binds (ps := ["signs", "begun", "goal_of", "is_wanted"]) fun _ _ _ _ _ _ us hl => match us, hl with | [_, _, _, _], _ => rfl
  have Fsilent := fun_mk (st := s_silent) lsilent csilent ksilent
  have Bsilent := Fsilent.binds (ps := ["machine"]) fun _ _ _ _ _ _ us hl => match us, hl with | [_], _ => rfl
  have F_law_has := fun_mk (st := s__law_has) l_law_has c_law_has k_law_has
  have B_law_has := F_law_has.binds (ps := ["keys", "key"]) fun _ _ _ _ _ _ us hl => match us, hl with | [_, _], _ => rfl
  have F_law_first := fun_mk (st := s__law_first) l_law_first c_law_first k_law_first
  have B_law_first := F_law_first.binds (ps := ["signs", "tables", "key"]) fun _ _ _ _ _ _ us hl => match us, hl with | [_, _, _], _ => rfl
  have F_law_texts := fun_mk (st := s__law_texts) l_law_texts c_law_texts k_law_texts
  have B_law_texts := F_law_texts.binds (ps := ["signs", "most"]) fun _ _ _ _ _ _ us hl => match us, hl with | [_, _], _ => rfl
  have F_law_read_v2 := fun_mk (st := s__law_read_v2) l_law_read_v2 c_law_read_v2 k_law_read_v2
  have B_law_read_v2 := F_law_read_v2.binds (ps := ["signs", "tables", "text"]) fun _ _ _ _ _ _ us hl => match us, hl with | [_, _, _], _ => rfl
  have F_law_are_first := fun_mk (st := s__law_are_first) l_law_are_first c_law_are_first k_law_are_first
  have B_law_are_first := F_law_are_first.binds (ps := ["signs", "tables", "told", "key"]) fun _ _ _ _ _ _ us hl => match us, hl with | [_, _, _, _], _ => rfl
  have Fgiving := fun_mk (st := s_giving) lgiving cgiving kgiving
  have Bgiving := Fgiving.binds (ps := ["machine", "key"]) fun _ _ _ _ _ _ us hl => match us, hl with | [_, _], _ => rfl
  have Flaw_v24 := fun_mk (st := s_law_v24) llaw_v24 claw_v24 klaw_v24
  refine ⟨PySem.W.fnOf "law" "law" (defArgs s_law_v24) (defBody s_law_v24) (defScope s_law_v24) .none kVlaw_v24 dclaw_v24 pmlaw_v24 anlaw_v24 cdlaw_v24 ctlaw_v24, fun s v => .of_eq rfl, fun base _ _ htb => ?_⟩
  have SBadMachine : SupF l.prog K CBadMachine fIBadMachine cdBadMachine ccBadMachine "BadMachine.__init__" (defArgs s_EBadMachine) (defBody s_EBadMachine) (defScope s_EBadMachine) _ := ⟨⟨_, _, _, _, _, _, _, _, rfl, lEBadMachine⟩, cdEBadMachine, (by obtain ⟨file, tf, h1, h2⟩ := vsEBadMachine; exact ⟨_, _, _, _, file, tf, flEBadMachine, h1, h2⟩), ⟨_, _, _, ccEBadMachine⟩, ⟨_, cldBadMachine⟩, toS, suEBadMachine, msEBadMachine, veEBadMachine, opq⟩
  have e_BadMachine : ErrMk l.prog w K mg base 1 "BadMachine" ["state", "place"] := err2 oxEBadMachine mEBadMachine iCEBadMachine tiEBadMachine SBadMachine (Binds.all fun us hl => match us, hl with | [_, _, _], _ => rfl) (NdefX.nscope_by (by decide +kernel)) ⟨_, rfl, rfl⟩ (PySem.W.mg_none_of X G b_super) (by decide +kernel) ⟨_, _, _, _, _, _, _, _, fun env => ⟨_, _, _, _, _, _, _, _, rfl, ⟨_, rfl⟩, rfl⟩⟩ fEBadMachine_state fEBadMachine_place
  have STooMany : SupF l.prog K CTooMany fITooMany cdTooMany ccTooMany "TooMany.__init__" (defArgs s_ETooMany) (defBody s_ETooMany) (defScope s_ETooMany) _ := ⟨⟨_, _, _, _, _, _, _, _, rfl, lETooMany⟩, cdETooMany, (by obtain ⟨file, tf, h1, h2⟩ := vsETooMany; exact ⟨_, _, _, _, file, tf, flETooMany, h1, h2⟩), ⟨_, _, _, ccETooMany⟩, ⟨_, cldTooMany⟩, toS, suETooMany, msETooMany, veETooMany, opq⟩
  have e_TooMany : ErrMk l.prog w K mg base 1 "TooMany" ["what"] := err1 oxETooMany mETooMany iCETooMany tiETooMany STooMany (Binds.all fun us hl => match us, hl with | [_, _], _ => rfl) (NdefX.nscope_by (by decide +kernel)) ⟨_, rfl, rfl⟩ (PySem.W.mg_none_of X G b_super) (by decide +kernel) ⟨_, _, _, _, fun env => ⟨_, _, _, _, _, _, _, _, rfl, ⟨_, rfl⟩, rfl⟩⟩ fETooMany_what
  have P_law_pen := p__law_pen (P := l.prog) (w := w) (base := base) F_law_pen T 
  have c__law_pen : DefOk l.prog w K mg base 1 "_law_pen" 1 f__law_pen := ⟨_, _, _, PySem.W.mg_of X G a_law_pen, k_law_pen, B_law_pen, rfl, P_law_pen⟩
  have P_law_draw := p__law_draw (P := l.prog) (w := w) (base := base) F_law_draw T 
  have c__law_draw : DefOk l.prog w K mg base 1 "_law_draw" 2 f__law_draw := ⟨_, _, _, PySem.W.mg_of X G a_law_draw, k_law_draw, B_law_draw, rfl, P_law_draw⟩
  have P_law_signs := p__law_signs (P := l.prog) (w := w) (base := base) F_law_signs T c__law_draw
  have c__law_signs : DefOk l.prog w K mg base 2 "_law_signs" 2 f__law_signs := ⟨_, _, _, PySem.W.mg_of X G a_law_signs, k_law_signs, B_law_signs, rfl, P_law_signs⟩
  have P_law_pick := p__law_pick (P := l.prog) (w := w) (base := base) F_law_pick T c__law_draw
  have c__law_pick : DefOk l.prog w K mg base 2 "_law_pick" 2 f__law_pick := ⟨_, _, _, PySem.W.mg_of X G a_law_pick, k_law_pick, B_law_pick, rfl, P_law_pick⟩
  have P_law_keys := p__law_keys (P := l.prog) (w := w) (base := base) F_law_keys T c__law_pick
  have c__law_keys : DefOk l.prog w K mg base 3 "_law_keys" 2 f__law_keys := ⟨_, _, _, PySem.W.mg_of X G a_law_keys, k_law_keys, B_law_keys, rfl, P_law_keys⟩
  have P_law_tables := p__law_tables (P := l.prog) (w := w) (base := base) F_law_tables T c__law_draw c__law_keys
  have c__law_tables : DefOk l.prog w K mg base 4 "_law_tables" 4 f__law_tables := ⟨_, _, _, PySem.W.mg_of X G a_law_tables, k_law_tables, B_law_tables, rfl, P_law_tables⟩
  have Pcheck_rows := p_check_rows (P := l.prog) (w := w) (base := base) Fcheck_rows T e_BadMachine
  have c_check_rows : DefOk l.prog w K mg base 3 "check_rows" 1 f_check_rows := ⟨_, _, _, PySem.W.mg_of X G acheck_rows, kcheck_rows, Bcheck_rows, rfl, Pcheck_rows⟩
  have Pascending := p_ascending (P := l.prog) (w := w) (base := base) Fascending T 
  have c_ascending : DefOk l.prog w K mg base 1 "ascending" 1 f_ascending := ⟨_, _, _, PySem.W.mg_of X G aascending, kascending, Bascending, rfl, Pascending⟩
  have Pkeys_in := p_keys_in (P := l.prog) (w := w) (base := base) Fkeys_in T c_ascending
  have c_keys_in : DefOk l.prog w K mg base 2 "keys_in" 2 f_keys_in := ⟨_, _, _, PySem.W.mg_of X G akeys_in, kkeys_in, Bkeys_in, rfl, Pkeys_in⟩
  have PMachine_init_v1 := p_Machine_init_v1 (P := l.prog) (w := w) (base := base) FMachine_init_v1 T c_check_rows c_ascending c_keys_in e_TooMany
  have c_Machine_init_v1 : MakeOk l.prog w K mg base 4 "Machine" 4 f_Machine_init_v1 := ⟨_, _, _, _, mCMachine, ⟨mkMachine, aMachine_init_v1, iMachine_init_v1, kcMachine⟩, BMachine_init_v1, rfl, PMachine_init_v1⟩
  have Pway_of := p_way_of (P := l.prog) (w := w) (base := base) Fway_of T 
  have c_way_of : DefOk l.prog w K mg base 1 "way_of" 3 f_way_of := ⟨_, _, _, PySem.W.mg_of X G away_of, kway_of, Bway_of, rfl, Pway_of⟩
  have Pfirst_text := p_first_text (P := l.prog) (w := w) (base := base) Ffirst_text T 
  have c_first_text : DefFk l.prog w K mg base 3 2 "first_text" 4 f_first_text := ⟨_, _, _, PySem.W.mg_of X G afirst_text, kfirst_text, Bfirst_text, rfl, Pfirst_text⟩
  have Psilent := p_silent (P := l.prog) (w := w) (base := base) Fsilent rfl (htb (cdsilent, tPsilent) List.mem_cons_self) T c_way_of c_first_text
  have c_silent : DefOk l.prog w K mg base 4 "silent" 1 f_silent := ⟨_, _, _, PySem.W.mg_of X G asilent, ksilent, Bsilent, rfl, Psilent⟩
  have P_law_has := p__law_has (P := l.prog) (w := w) (base := base) F_law_has T 
  have c__law_has : DefOk l.prog w K mg base 1 "_law_has" 2 f__law_has := ⟨_, _, _, PySem.W.mg_of X G a_law_has, k_law_has, B_law_has, rfl, P_law_has⟩
  have P_law_first := p__law_first (P := l.prog) (w := w) (base := base) F_law_first T c__law_has
  have c__law_first : DefOk l.prog w K mg base 2 "_law_first" 3 f__law_first := ⟨_, _, _, PySem.W.mg_of X G a_law_first, k_law_first, B_law_first, rfl, P_law_first⟩
  have P_law_texts := p__law_texts (P := l.prog) (w := w) (base := base) F_law_texts T 
  have c__law_texts : DefOk l.prog w K mg base 1 "_law_texts" 2 f__law_texts := ⟨_, _, _, PySem.W.mg_of X G a_law_texts, k_law_texts, B_law_texts, rfl, P_law_texts⟩
  have P_law_read_v2 := p__law_read_v2 (P := l.prog) (w := w) (base := base) F_law_read_v2 T 
  have c__law_read_v2 : DefOk l.prog w K mg base 1 "_law_read" 3 f__law_read_v2 := ⟨_, _, _, PySem.W.mg_of X G a_law_read_v2, k_law_read_v2, B_law_read_v2, rfl, P_law_read_v2⟩
  have P_law_are_first := p__law_are_first (P := l.prog) (w := w) (base := base) F_law_are_first T c__law_texts c__law_read_v2
  have c__law_are_first : DefOk l.prog w K mg base 2 "_law_are_first" 4 f__law_are_first := ⟨_, _, _, PySem.W.mg_of X G a_law_are_first, k_law_are_first, B_law_are_first, rfl, P_law_are_first⟩
  have Pgiving := p_giving (P := l.prog) (w := w) (base := base) Fgiving rfl (htb (cdgiving, tPgiving) (List.mem_cons_of_mem _ List.mem_cons_self)) T c_way_of c_first_text
  have c_giving : DefOk l.prog w K mg base 4 "giving" 2 f_giving := ⟨_, _, _, PySem.W.mg_of X G agiving, kgiving, Bgiving, rfl, Pgiving⟩
  exact p_law_v24 (P := l.prog) (w := w) (base := base) Flaw_v24 T c__law_pen c__law_signs c__law_draw c__law_tables c_Machine_init_v1 c_silent c__law_first c__law_are_first c_giving
end K13
-- S_pen
namespace Nv
open PySem PySem.Spec PyProof.Rows L2
def mixed (at_ cell : Int) : Int :=
  let a := (cell % 2147483587 * 48271 + 40014 * at_ * at_ + 59 * at_ + 17) % 2147483629
  let b := a * (a + 69621) % 2147483549
  b * b % 2147483579 / 32
def cellAt (p : Pn) : Int := if p.cells ≠ [] then p.cells.getD (p.at_ % (p.cells.length : Nat)).toNat 0 else 41 * p.at_ + 23
def draw (p : Pn) (m : Int) : Int × Pn :=
  if m ≤ p.left then (p.left % m, { p with left := p.left / m })
  else if p.at_ < (p.cells.length : Nat) ∧ 10 ^ 18 ≤ cellAt p then ((cellAt p - 10 ^ 18) % m, { p with at_ := p.at_ + 1, left := (cellAt p - 10 ^ 18) / m })
  else (mixed p.at_ (cellAt p) % m, { p with at_ := p.at_ + 1 })
theorem draw_ok (p : Pn) (m : Int) (hm : 0 < m) (hm2 : m.natAbs.log2 < 9000) (h0 : 0 ≤ p.at_) (h1 : p.at_ < 2 ^ 64) :
    f__law_draw [.own p.o, .dat (.int m)] = .ok (.dat (.int (draw p m).1)) [.own (some 0) (draw p m).2.o, .dat (.int m)] := by
  by_cases h : m ≤ p.left
  · simp_all?! only [↓u__law_draw, ↓d__law_draw, h, hm, hm2, draw]
  · have k1 : mulOk 41 p.at_ = true := mulOk_l (by decide) (by decide)
    have k2 : mulOk (cellAt p % 2147483587) 48271 = true := mulOk_r (by decide) (by decide)
    have k3 : mulOk 40014 p.at_ = true := mulOk_l (by decide) (by decide)
    have k4 : mulOk (40014 * p.at_) p.at_ = true := mulOk_r (by omega) (by omega)
    have k5 : mulOk 59 p.at_ = true := mulOk_l (by decide) (by decide)
    have kp : (0 : Int) ≤ 18 ∧ (18 : Int) ≤ 1000000 ∧ (10 : Int).natAbs < 2 ^ 64 := by decide
    have kt : (18 : Int).toNat = 18 := rfl
    have k32 : (0 : Int) < 32 ∧ (32 : Int).natAbs.log2 < 9000 := by decide
    have q1 : (0 : Int) < 2147483587 := by decide
    have q2 : (0 : Int) < 2147483629 := by decide
    have q3 : (0 : Int) < 2147483549 := by decide
    have q4 : (0 : Int) < 2147483579 := by decide
    have k6 : ∀ x y : Int, mulOk (x % 2147483629) y = true := fun x y => mulOk_l (by omega) (by omega)
    have k7 : ∀ x y : Int, mulOk (x % 2147483549) y = true := fun x y => mulOk_l (by omega) (by omega)
    by_cases hc : p.cells = []
    · have e1 : cellAt p = 41 * p.at_ + 23 := by unfold cellAt; rw [if_neg (fun z => z hc)]
      have k2' : mulOk ((41 * p.at_ + 23) % 2147483587) 48271 = true := by rw [← e1]; exact k2
      have k8 : ¬ p.at_ < ((0 : Nat) : Int) := by omega
      have k9 : ¬ p.at_ < (([] : List Int).length : Nat) := k8
      simp_all?! only [↓u__law_draw, ↓d__law_draw, h, hm, hm2, k1, k2', k3, k4, k5, kp, kt, k32, q1, q2, q3, q4, k6, k7, ne_ints, hc, k8, k9, ne_eq, not_true_eq_false, draw, e1, mixed, false_and, and_self]
    · have hl : 0 < p.cells.length := List.length_pos_iff.mpr hc
      have hb : p.at_ % (p.cells.length : Nat) < (p.cells.length : Nat) := Int.emod_lt_of_pos _ (by omega)
      have hb0 : 0 ≤ p.at_ % (p.cells.length : Nat) := Int.emod_nonneg _ (by omega)
      have hx : p.cells[(p.at_ % (p.cells.length : Nat)).toNat]? = some (cellAt p) := by
        unfold cellAt
        rw [if_pos hc, List.getD_eq_getElem?_getD, List.getElem?_eq_getElem (by omega)]
        rfl
      have e2 : atI (p.cells.map D.int) (p.at_ % (p.cells.length : Nat)) = some (.int (cellAt p)) := by
        rw [atI_map, atI_at hb0 hx]
        rfl
      have q5 : (0 : Int) < (p.cells.length : Nat) := by omega
      by_cases h8 : p.at_ < (p.cells.length : Nat)
      · by_cases h9 : (10 : Int) ^ 18 ≤ cellAt p
        · simp_all?! only [↓u__law_draw, ↓d__law_draw, h, hm, hm2, k1, k2, k3, k4, k5, kp, kt, k32, q1, q2, q3, q4, q5, k6, k7, ne_ints, hc, h8, h9, e2, ne_eq, not_false_eq_true, draw, mixed, and_self]
        · simp_all?! only [↓u__law_draw, ↓d__law_draw, h, hm, hm2, k1, k2, k3, k4, k5, kp, kt, k32, q1, q2, q3, q4, q5, k6, k7, ne_ints, hc, h8, h9, e2, ne_eq, not_false_eq_true, draw, mixed, and_false, and_self]
      · simp_all?! only [↓u__law_draw, ↓d__law_draw, h, hm, hm2, k1, k2, k3, k4, k5, kp, kt, k32, q1, q2, q3, q4, q5, k6, k7, ne_ints, hc, h8, e2, ne_eq, not_false_eq_true, draw, mixed, false_and, and_self]
/-- k draws are left -/
structure PB (p : Pn) (k : Nat) : Prop where
  lo : 0 ≤ p.at_
  hi : p.at_ + (k : Nat) < 2 ^ 64
theorem PB.mono {p : Pn} {j k : Nat} (h : PB p k) (hj : j ≤ k) : PB p j := ⟨h.lo, by have := h.hi; omega⟩
theorem draw_pb {p : Pn} {m : Int} {k : Nat} (h : PB p (k + 1)) : PB (draw p m).2 k := by
  have h1 := h.lo
  have h2 := h.hi
  unfold draw
  split
  · exact ⟨h1, by show p.at_ + (k : Nat) < 2 ^ 64; omega⟩
  · split
    · exact ⟨by show 0 ≤ p.at_ + 1; omega, by show p.at_ + 1 + (k : Nat) < 2 ^ 64; omega⟩
    · exact ⟨by show 0 ≤ p.at_ + 1; omega, by show p.at_ + 1 + (k : Nat) < 2 ^ 64; omega⟩
theorem draw_lt {p : Pn} {m : Int} (hm : 0 < m) : 0 ≤ (draw p m).1 ∧ (draw p m).1 < m := by
  unfold draw
  split
  · exact ⟨Int.emod_nonneg _ (by omega), Int.emod_lt_of_pos _ hm⟩
  · split
    · exact ⟨Int.emod_nonneg _ (by omega), Int.emod_lt_of_pos _ hm⟩
    · exact ⟨Int.emod_nonneg _ (by omega), Int.emod_lt_of_pos _ hm⟩
def drawN (p : Pn) (n : Nat) : Nat × Pn := ((draw p (n : Nat)).1.toNat, (draw p (n : Nat)).2)
theorem drawN_lt {p : Pn} {n : Nat} (hn : 0 < n) : (drawN p n).1 < n := by
  have h := draw_lt (p := p) (m := (n : Nat)) (by omega)
  unfold drawN
  dsimp only
  omega
theorem drawN_pb {p : Pn} {n k : Nat} (h : PB p (k + 1)) : PB (drawN p n).2 k := draw_pb h
theorem log_lt {n : Nat} (h : n < 2 ^ 62) : ((n : Nat) : Int).natAbs.log2 < 9000 := by
  rw [Int.natAbs_natCast]
  by_cases z : n = 0
  · subst z; decide
  · have := (Nat.log2_lt z).mpr h
    omega
theorem drawN_ok (p : Pn) (n : Nat) (hn : 0 < n) (hn2 : n < 2 ^ 62) (h : PB p 1) (m : Int) (hm : m = (n : Nat)) :
    f__law_draw [.own p.o, .dat (.int m)] = .ok (.dat (.int ((drawN p n).1 : Nat))) [.own (some 0) (drawN p n).2.o, .dat (.int m)] := by
  subst hm
  have h1 := draw_lt (p := p) (m := (n : Nat)) (by omega)
  have h2 := h.hi
  rw [draw_ok p (n : Nat) (by omega) (log_lt hn2) h.lo (by omega)]
  unfold drawN
  dsimp only
  rw [Int.toNat_of_nonneg h1.1]
theorem pick_ok (p : Pn) (d : D) (n : Nat) (av : D) (hl : gLen d = some (.dat (.int (n : Nat)))) (hn : 0 < n) (hn2 : n < 2 ^ 62) (h : PB p 1) (hx : gIx d (.int ((drawN p n).1 : Nat)) = some (.dat av)) :
    f__law_pick [.own p.o, .dat d] = .ok (.dat av) [.own (some 0) (drawN p n).2.o, .dat d] := by
  have hd := drawN_ok p n hn hn2 h _ rfl
  simp_all?! only [↓u__law_pick, ↓d__law_pick, hl, hd, hx]
theorem le_sl {n : Nat} (h : n ≤ 1000) : n ≤ sizeLine := Nat.le_trans h (by decide)
/-- an item of a list -/
theorem pickL_ok {α : Type} (e : α → D) (p : Pn) (l : List α) (x : α) (hl : l.length ≤ 1000) (h : PB p 1) (hx : l[(drawN p l.length).1]? = some x) :
    f__law_pick [.own p.o, .dat (.lst (l.map e))] = .ok (.dat (e x)) [.own (some 0) (drawN p l.length).2.o, .dat (.lst (l.map e))] := by
  have hk := (List.getElem?_eq_some_iff.mp hx).1
  refine pick_ok p (.lst (l.map e)) l.length _ (by rw [len_lst, List.length_map]) (by omega) (by omega) h ?_
  rw [ix_lst, atI_map, atI_nat hx]
  rfl
def letters : Tx := [97, 98, 99, 100, 101, 102, 103, 104, 105, 106, 107, 108, 109, 110, 111, 112, 113, 114, 115, 116, 117, 118, 119, 120, 121, 122]
theorem ofs_letters : Str.ofString "abcdefghijklmnopqrstuvwxyz" = SX.S letters := rfl
structure Sg where
  left : Tx
  found : Tx
  pen : Pn
def sgStep (s : Sg) : Sg :=
  let r := drawN s.pen s.left.length
  ⟨s.left.take r.1 ++ s.left.drop (r.1 + 1), s.found ++ [s.left.getD r.1 0], r.2⟩
def sgL : Nat → Sg → Sg
  | 0, s => s
  | n + 1, s => sgL n (sgStep s)
def signsF (n : Nat) (p : Pn) : Tx × Pn := ((sgL n ⟨letters, [], p⟩).found, (sgL n ⟨letters, [], p⟩).pen)
theorem sgL_fold : ∀ (l : List Nat) (s : Sg), l.foldl (fun s _ => sgStep s) s = sgL l.length s
  | [], _ => rfl
  | _ :: l, s => sgL_fold l (sgStep s)
/-- what holds of them -/
structure SgI (s : Sg) (n k : Nat) : Prop where
  len : s.left.length + s.found.length = 26
  left : n ≤ s.left.length
  nd : (s.left ++ s.found).Nodup
  pb : PB s.pen (k + n)
theorem perm_mv (A B F : Tx) (x : Nat) : (A ++ x :: B ++ F).Perm (A ++ B ++ (F ++ [x])) := by
  have e1 : A ++ x :: B ++ F = A ++ x :: (B ++ F) := by rw [List.append_assoc]; rfl
  have e2 : A ++ B ++ (F ++ [x]) = (A ++ (B ++ F)) ++ [x] := by rw [List.append_assoc, List.append_assoc, List.append_assoc]
  rw [e1, e2]
  exact (List.perm_middle (a := x) (l₁ := A) (l₂ := B ++ F)).trans (List.perm_append_comm (l₁ := [x]) (l₂ := A ++ (B ++ F)))
theorem sgStep_i {s : Sg} {n k : Nat} (h : SgI s (n + 1) k) : SgI (sgStep s) n k ∧ (sgStep s).found.length = s.found.length + 1 := by
  have h1 := h.left
  have h2 := h.len
  have hk := drawN_lt (p := s.pen) (n := s.left.length) (by omega)
  have hd : s.left = s.left.take (drawN s.pen s.left.length).1 ++ s.left[(drawN s.pen s.left.length).1] :: s.left.drop ((drawN s.pen s.left.length).1 + 1) := by
    rw [← List.drop_eq_getElem_cons hk, List.take_append_drop]
  have hg : s.left.getD (drawN s.pen s.left.length).1 0 = s.left[(drawN s.pen s.left.length).1] := by
    rw [List.getD_eq_getElem?_getD, List.getElem?_eq_getElem hk]
    rfl
  refine ⟨⟨?_, ?_, ?_, drawN_pb (k := k + n) h.pb⟩, ?_⟩
  · unfold sgStep
    dsimp only
    rw [List.length_append, List.length_append, List.length_take, List.length_drop, List.length_singleton]
    omega
  · unfold sgStep
    dsimp only
    rw [List.length_append, List.length_take, List.length_drop]
    omega
  · unfold sgStep
    dsimp only
    rw [hg]
    have nd := h.nd
    rw [hd] at nd
    have p := perm_mv (s.left.take (drawN s.pen s.left.length).1) (s.left.drop ((drawN s.pen s.left.length).1 + 1)) s.found s.left[(drawN s.pen s.left.length).1]
    exact p.nodup nd
  · unfold sgStep
    dsimp only
    rw [List.length_append, List.length_singleton]
theorem sgL_i : ∀ {n : Nat} {s : Sg} {k : Nat}, SgI s n k → SgI (sgL n s) 0 k ∧ (sgL n s).found.length = s.found.length + n
  | 0, s, k, h => ⟨h, rfl⟩
  | n + 1, s, k, h => by
    obtain ⟨h1, h2⟩ := sgStep_i h
    obtain ⟨h3, h4⟩ := sgL_i h1
    exact ⟨h3, by show (sgL n (sgStep s)).found.length = _; rw [h4, h2]; omega⟩
theorem sg0 {n k : Nat} {p : Pn} (hn : n ≤ 26) (h : PB p (k + n)) : SgI ⟨letters, [], p⟩ n k := ⟨rfl, hn, by show (letters ++ []).Nodup; decide, h⟩
theorem signs_len {n : Nat} {p : Pn} (hn : n ≤ 26) (h : PB p n) : (signsF n p).1.length = n := by
  have q := (sgL_i (sg0 (k := 0) hn (by rw [Nat.zero_add]; exact h))).2
  show (sgL n ⟨letters, [], p⟩).found.length = n
  rw [q]
  exact Nat.zero_add n
theorem signs_nd {n : Nat} {p : Pn} (hn : n ≤ 26) (h : PB p n) : (signsF n p).1.Nodup := by
  have q := (sgL_i (sg0 (k := 0) hn (by rw [Nat.zero_add]; exact h))).1.nd
  exact (List.nodup_append.mp q).2.1
theorem signs_pb {n k : Nat} {p : Pn} (hn : n ≤ 26) (h : PB p (k + n)) : PB (signsF n p).2 k := (sgL_i (sg0 hn h)).1.pb
theorem signs_turn (n x : Nat) (xs : List Nat) (s : Sg) (hI : SgI s (x :: xs).length 0) : ∃ Γ1, tName 4 (.int (0 + (x : Nat))) [.own (some 0) s.pen.o, .dat (.int (n : Nat)), .dat (tD s.left), .dat (tD s.found), .un, .un] = some Γ1 ∧
    b__law_signs_1 Γ1 = .nx [.own (some 0) (sgStep s).pen.o, .dat (.int (n : Nat)), .dat (tD (sgStep s).left), .dat (tD (sgStep s).found), .un, .un] := by
  have h1 := hI.left
  have h2 := hI.len
  rw [List.length_cons] at h1
  have hd := drawN_ok s.pen s.left.length (by omega) (by omega) (hI.pb.mono (by rw [List.length_cons]; omega)) _ rfl
  have hk := drawN_lt (p := s.pen) (n := s.left.length) (by omega)
  have hx : atI s.left ((drawN s.pen s.left.length).1 : Nat) = some (s.left.getD (drawN s.pen s.left.length).1 0) := by
    rw [atI_nat (List.getElem?_eq_getElem hk), List.getD_eq_getElem?_getD, List.getElem?_eq_getElem hk]
    rfl
  have l1 : s.left.length ≤ sizeLine := le_sl (by omega)
  have l2 : s.found.length + 1 ≤ sizeLine := le_sl (by omega)
  have l3 : (s.left.take (drawN s.pen s.left.length).1).length + (s.left.drop ((drawN s.pen s.left.length).1 + 1)).length ≤ sizeLine := le_sl (by rw [List.length_take, List.length_drop]; omega)
  have hc : ((drawN s.pen s.left.length).1 : Int) + 1 = ((drawN s.pen s.left.length).1 + 1 : Nat) := by omega
  refine ⟨_, rfl, ?_⟩
  simp_all?! only [↓b__law_signs_1, hd, hx, l1, l2, l3, hc, sgStep, Nat.zero_add]
theorem signs_loop (p : Pn) (n : Nat) (hn : n ≤ 26) (h : PB p n) : forL (tName 4) b__law_signs_1 (rangeD 0 n) [.own (some 0) p.o, .dat (.int (n : Nat)), .dat (tD letters), .dat (tD []), .un, .un] =
    .nx [.own (some 0) (sgL n ⟨letters, [], p⟩).pen.o, .dat (.int (n : Nat)), .dat (tD (sgL n ⟨letters, [], p⟩).left), .dat (tD (sgL n ⟨letters, [], p⟩).found), .un, .un] := by
  have q := forL_eq (g := tName 4) (f := b__law_signs_1) (fun s : Sg => [.own (some 0) s.pen.o, .dat (.int (n : Nat)), .dat (tD s.left), .dat (tD s.found), .un, .un]) (fun i : Nat => .int (0 + (i : Nat))) (fun s _ => sgStep s) (fun l s => SgI s l.length 0)
    (fun x xs s hI => ⟨signs_turn n x xs s hI, (sgStep_i hI).1⟩) (List.range n) ⟨letters, [], p⟩ (by rw [List.length_range]; exact sg0 hn (by rw [Nat.zero_add]; exact h))
  rw [sgL_fold, List.length_range] at q
  exact q
theorem signs_ok (p : Pn) (n : Nat) (hn : n ≤ 26) (h : PB p n) : f__law_signs [.own p.o, .dat (.int (n : Nat))] = .ok (.dat (tD (signsF n p).1)) [.own (some 0) (signsF n p).2.o, .dat (.int (n : Nat))] := by
  have hr : rngOk (n : Nat) = true := decide_eq_true (by omega)
  have hf := signs_loop p n hn h
  simp_all?! only [↓u__law_signs, ↓d__law_signs, hr, ofs_letters, hf, signsF]
end Nv
-- S_asc
namespace Nv
open PySem PySem.Spec PyProof.Rows L2
/-- a list or a tuple -/
def sq (b : Bool) (l : List D) : D := if b = true then .tup l else .lst l
theorem items_sq {b : Bool} {l : List D} : itemsD2 (sq b l) = some l := by cases b <;> rfl
def insT (acc : List Tx) (x : Tx) : List Tx := if x ∈ acc then acc else acc ++ [x]
theorem ded_fold : ∀ (l acc : List Tx), ded acc l = l.foldl insT acc
  | [], _ => rfl
  | x :: r, acc => by
    rw [ded, List.foldl_cons]
    unfold insT
    split
    · exact ded_fold r acc
    · exact ded_fold r _
theorem ded_len : ∀ (l acc : List Tx), (ded acc l).length ≤ acc.length + l.length
  | [], acc => by simp [ded]
  | x :: r, acc => by
    rw [ded]
    split
    · have := ded_len r acc
      rw [List.length_cons]; omega
    · have := ded_len r (acc ++ [x])
      rw [List.length_append, List.length_singleton] at this
      rw [List.length_cons]; omega
theorem asc_len (l : List Tx) : (asc l).length ≤ l.length := by
  unfold asc
  rw [(sortT_perm _).length_eq]
  simpa using ded_len l []
def trD : Tx → D × D := fun k => (tD k, .bl true)
theorem dput_tr (acc : List Tx) (x : Tx) : dput (acc.map trD) (tD x) (.bl true) = (insT acc x).map trD := by
  unfold dput insT
  have e : ((acc.map trD).any fun p => p.1.eq (tD x)) = decide (x ∈ acc) := by
    rw [List.any_map, Bool.eq_iff_iff, List.any_eq_true, decide_eq_true_eq]
    constructor
    · rintro ⟨y, hy, h⟩
      have h2 : (tD y).eq (tD x) = true := h
      rw [eq_S, decide_eq_true_eq] at h2
      subst h2; exact hy
    · intro h
      exact ⟨x, h, by show (tD x).eq (tD x) = true; rw [eq_S]; simp⟩
  rw [e]
  by_cases h : x ∈ acc
  · rw [if_pos (by simpa using h), if_pos h, List.map_map]
    refine List.map_congr_left fun y _ => ?_
    show (if (tD y).eq (tD x) = true then (tD y, D.bl true) else (tD y, D.bl true)) = (tD y, D.bl true)
    split <;> rfl
  · rw [if_neg (by simpa using h), if_neg h, List.map_append]
    rfl
theorem asc_dict (words : D) (l : List Tx) (hl : l.length ≤ 1000) (Γ0 : Ev) (e0 : Γ0 = [.dat words, .un]) :
    loopN (bodyD q_ascending_1 q_ascending_2) Γ0 (tName 1) yesT (l.map tD) [] Γ0 = some ((ded [] l).map trD, Γ0) := by
  subst e0
  have q := loopN_go (Γ0 := [.dat words, .un]) (Γ := [.dat words, .un]) (gd := tName 1) (t := yesT) (body := bodyD q_ascending_1 q_ascending_2) tD (fun acc x => (match acc with | acc => dput acc (tD x) (.bl true))) (fun r acc => ∃ a : List Tx, acc = a.map trD ∧ a.length + r.length ≤ 1000)
    (fun x xs acc ⟨a, ha, hn⟩ => ?_) l [] ⟨[], rfl, by simpa using hl⟩
  · rw [q]
    have f : ∀ (l a : List Tx), l.foldl (fun (acc : List (D × D)) x => (match acc with | acc => dput acc (tD x) (.bl true))) (a.map trD) = (l.foldl insT a).map trD := by
      intro l
      induction l with
      | nil => intro a; rfl
      | cons x l ih => intro a; rw [List.foldl_cons, List.foldl_cons]; show List.foldl _ (dput (a.map trD) (tD x) (.bl true)) l = _; rw [dput_tr, ih]
    have f2 := f l []
    rw [List.map_nil] at f2
    rw [f2, ded_fold]
  · subst ha
    rw [List.length_cons] at hn
    refine ⟨⟨[.dat words, .dat (tD x)], rfl, [.dat words, .dat (tD x)], rfl, [.dat words, .dat (tD x)], ?_, rfl⟩, insT a x, dput_tr a x, ?_⟩
    · have hs : (a.map trD).length < sizeLine := by rw [List.length_map, sl_eq]; omega
      show (if (tD x).key.isSome = true ∧ (a.map trD).length < sizeLine then some (dput (a.map trD) (tD x) (.bl true), _) else none) = _
      rw [if_pos ⟨rfl, hs⟩]
    · unfold insT
      split
      · omega
      · rw [List.length_append, List.length_singleton]; omega
theorem asc_strs (words : D) (l : List Tx) (hl : l.length ≤ 1000) (Γ0 : Ev) (e0 : Γ0 = [.dat words, .un]) :
    compL Γ0 (tName 1) yesT q_ascending_3 (l.map tD) [] Γ0 = some (l.map tD, Γ0) := by
  subst e0
  rw [compL_mf tD (fun _ => true) tD (fun _ => True) (fun x _ => ?_) l (fun _ _ => trivial) (by rw [sl_eq]; omega)]
  · rw [List.filter_eq_self.mpr fun _ _ => rfl]
  · refine ⟨[.dat words, .dat (tD x)], [.dat words, .dat (tD x)], rfl, rfl, fun _ => ⟨[.dat words, .dat (tD x)], ?_, rfl⟩, fun h => nomatch h⟩
    simp_all! only [↓q_ascending_3]
theorem tr_fst (l : List Tx) : List.map (fun x : D × D => x.fst) (l.map trD) = l.map tD := by
  rw [List.map_map]
  rfl
theorem ascending_sq (b : Bool) (l : List Tx) (hl : l.length ≤ 1000) (hd : (ded [] l).length < 64) : f_ascending [.dat (sq b (l.map tD))] = .ok (.dat (.tup ((asc l).map tD))) [.dat (sq b (l.map tD))] := by
  have h1 := asc_dict (sq b (l.map tD)) l hl _ rfl
  have hd2 : (ded [] l).length ≤ l.length := by simpa using ded_len l []
  have h2 := asc_strs (sq b (l.map tD)) (ded [] l) (by omega) _ rfl
  have h3 : gSort2 (.lst ((ded [] l).map tD)) = some (.own (.lst ((asc l).map tD))) := by
    unfold gSort2
    rw [gSort_S (l := ded [] l) hd]
    rfl
  simp_all! only [↓u_ascending, ↓d_ascending, items_sq, h1, h2, h3, tr_fst]
theorem ascending_ok (l : List Tx) (hl : l.length ≤ 1000) (hd : (ded [] l).length < 64) : f_ascending [.dat (.lst (l.map tD))] = .ok (.dat (.tup ((asc l).map tD))) [.dat (.lst (l.map tD))] := ascending_sq false l hl hd
end Nv
-- S_gen
namespace Nv
open PySem PySem.Spec PyProof.Rows L2
theorem enumD_mp {α : Type} (f : α → D) : ∀ (l : List α) (k : Nat), enumD k (l.map f) = (l.zipIdx k).map fun p => .tup [.int (p.2 : Nat), f p.1]
  | [], _ => rfl
  | x :: l, k => by
    rw [List.map_cons, enumD, enumD_mp f l, List.zipIdx_cons, List.map_cons]
theorem makeR_mk {cn : Str} {g : List AV → FR} {os : List OV} {Γ : Ev} {ds : List D} {t : Option Nat} {o : O} {outs : Ev} (hd : dats os = some ds) (h : g (.own (.ins cn []) :: ds.map .dat) = .ok (.dat .non) (.own t o :: outs)) : makeR cn g os Γ = .ok (.own o) Γ := by
  unfold makeR
  rw [hd]
  dsimp only
  rw [h]
section
variable {ι : Type} {g : TgF} {f : Ev → Out}
theorem compL_all {Γ0 Γ : Ev} {fe : Ev → Rs D} (e val : ι → D) (P : ι → Prop) (h : ∀ x, P x → ∃ Γ1, g (e x) Γ = some Γ1 ∧ ∃ Γ3, fe Γ1 = .ok (val x) Γ3 ∧ anchor Γ0 Γ3 = Γ) (xs : List ι) (hx : ∀ x ∈ xs, P x) (hl : xs.length ≤ sizeLine) :
    compL Γ0 g yesT fe (xs.map e) [] Γ = some (xs.map val, Γ) := by
  rw [compL_mf (t := yesT) e (fun _ => true) val P (fun x hp => ?_) xs hx hl]
  · rw [List.filter_eq_self.mpr fun _ _ => rfl]
  · obtain ⟨Γ1, h1, Γ3, h2, h3⟩ := h x hp
    exact ⟨Γ1, Γ1, h1, rfl, fun _ => ⟨Γ3, h2, h3⟩, fun z => nomatch z⟩
end
end Nv
-- S_mach
namespace Nv
open PySem PySem.Spec PyProof.Rows L2
abbrev Way := Nat × List Tx
def wayO (w : Way) : D := .tup [.int (w.1 : Nat), .tup ((asc w.2).map tD)]
def rowO (r : List Way) : D := .tup (r.map wayO)
def rowsO (rows : List (List Way)) : D := .tup (rows.map rowO)
def endO (e : List Tx) : D := .tup ((asc e).map tD)
def endsO (ends : List (List Tx)) : D := .tup (ends.map endO)
def givenK (rows : List (List Way)) : List Tx := rows.flatMap fun r => r.flatMap fun w => asc w.2
def allL (rows : List (List Way)) (ends : List (List Tx)) : List Tx := givenK rows ++ ends.flatMap asc
def machF (sg : Tx) (rows : List (List Way)) (ends : List (List Tx)) : List (Str × D) :=
  [(("signs" : Str), tD sg), (("rows" : Str), rowsO rows), (("ends" : Str), endsO ends), (("all_keys" : Str), .tup ((asc (allL rows ends)).map tD))]
/-- what the keys must be -/
structure KeysOk (rows : List (List Way)) (ends : List (List Tx)) : Prop where
  way : ∀ r ∈ rows, ∀ w ∈ r, w.2.length ≤ 60
  en : ∀ e ∈ ends, e.length ≤ 60
  row : ∀ r ∈ rows, r.length ≤ 60
  nr : rows.length ≤ 100
  ne : ends.length ≤ 100
  all : (allL rows ends).length ≤ 1000
  ded : (ded [] (allL rows ends)).length ≤ 12
theorem asc_small (l : List Tx) (h : l.length ≤ 60) : (ded [] l).length < 64 := by
  have := ded_len l []
  rw [List.length_nil] at this
  omega
theorem flat_sing {α β : Type} (f : α → β) (l : List α) : l.flatMap (fun x => [f x]) = l.map f := by
  induction l with
  | nil => rfl
  | cons a l ih => rw [List.flatMap_cons, ih]; rfl
theorem map_flat {α β γ : Type} (f : β → γ) (g : α → List β) (l : List α) : (l.flatMap g).map f = l.flatMap fun x => (g x).map f := by
  induction l with
  | nil => rfl
  | cons a l ih => rw [List.flatMap_cons, List.map_append, ih, List.flatMap_cons]
theorem keys3 (G5 G2 R E : Slot) (l : List Tx) (S4 : Slot) (acc : List D) (hl : acc.length + l.length ≤ sizeLine) (hR : ∃ d, R = .dat d) (hE : ∃ d, E = .dat d) (h2 : G2 = .un) (h4 : S4 = .un ∨ ∃ d, S4 = .dat d) (h3 : G5 = .un ∨ ∃ d, G5 = .dat d) (S3 : Slot) (hs3 : S3 = .un ∨ ∃ d, S3 = .dat d) :
    loopN (bodyN q_keys_in_1 []) [R, E, G2, S3, S4, G5, .un] (tName 6) yesT (l.map tD) acc [R, E, G2, S3, S4, G5, .un] = some (acc ++ l.map tD, [R, E, G2, S3, S4, G5, .un]) := by
  rw [loopN_fm (Γ0 := [R, E, G2, S3, S4, G5, .un]) (gd := tName 6) (t := yesT) (body := bodyN q_keys_in_1 []) tD (fun x => [tD x]) (fun _ => True) (fun x _ => ⟨[R, E, G2, S3, S4, G5, .dat (tD x)], rfl, .inl ⟨[R, E, G2, S3, S4, G5, .dat (tD x)], rfl, fun acc ha => ⟨[R, E, G2, S3, S4, G5, .dat (tD x)], ?_, ?_⟩⟩⟩) l acc (fun _ _ => trivial) (by rw [flat_sing, List.length_map]; exact hl), flat_sing]
  · have h1 : acc.length < sizeLine := ha
    show (if acc.length < sizeLine then some (acc ++ [tD x], _) else none) = _
    rw [if_pos h1]
  · obtain ⟨d1, rfl⟩ := hR
    obtain ⟨d2, rfl⟩ := hE
    subst h2
    rcases h4 with rfl | ⟨d4, rfl⟩ <;> rcases h3 with rfl | ⟨d3, rfl⟩ <;> rcases hs3 with rfl | ⟨d5, rfl⟩ <;> rfl
theorem keys3b (l : List Tx) (R E G5 : D) (S2 : Slot) (h2 : ∃ o, S2 = .own none o) (acc : List D) (hl : acc.length + l.length ≤ sizeLine) :
    loopN (bodyN q_keys_in_2 []) [.dat R, .dat E, S2, .un, .un, .dat G5, .un] (tName 6) yesT (l.map tD) acc [.dat R, .dat E, S2, .un, .un, .dat G5, .un] = some (acc ++ l.map tD, [.dat R, .dat E, S2, .un, .un, .dat G5, .un]) := by
  obtain ⟨o, rfl⟩ := h2
  rw [loopN_fm (Γ0 := [.dat R, .dat E, .own none o, .un, .un, .dat G5, .un]) (gd := tName 6) (t := yesT) (body := bodyN q_keys_in_2 []) tD (fun x => [tD x]) (fun _ => True) (fun x _ => ⟨[.dat R, .dat E, .own none o, .un, .un, .dat G5, .dat (tD x)], rfl, .inl ⟨[.dat R, .dat E, .own none o, .un, .un, .dat G5, .dat (tD x)], rfl, fun acc ha => ⟨[.dat R, .dat E, .own none o, .un, .un, .dat G5, .dat (tD x)], ?_, rfl⟩⟩⟩) l acc (fun _ _ => trivial) (by rw [flat_sing, List.length_map]; exact hl), flat_sing]
  have h1 : acc.length < sizeLine := ha
  show (if acc.length < sizeLine then some (acc ++ [tD x], _) else none) = _
  rw [if_pos h1]
theorem keys2 (R E : D) (r : List Way) (hw : ∀ w ∈ r, w.2.length ≤ 60) (acc : List D) (hl : acc.length + (r.flatMap fun w => (asc w.2).map tD).length ≤ sizeLine) :
    loopN (bodyN q_keys_in_1 [⟨bare (seqI (slotB 5)), (tName 6), yesT, [6]⟩]) [.dat R, .dat E, .un, .dat (rowO r), .un, .un, .un] (tTup (tsCons (tName 4) (tsCons (tName 5) tsNil))) yesT (r.map wayO) acc [.dat R, .dat E, .un, .dat (rowO r), .un, .un, .un] =
      some (acc ++ r.flatMap (fun w => (asc w.2).map tD), [.dat R, .dat E, .un, .dat (rowO r), .un, .un, .un]) := by
  refine loopN_fm wayO (fun w => (asc w.2).map tD) (fun w => w.2.length ≤ 60) (fun w hw => ⟨[.dat R, .dat E, .un, .dat (rowO r), .dat (.int (w.1 : Nat)), .dat (.tup ((asc w.2).map tD)), .un], rfl, .inl ⟨_, rfl, fun acc ha => ⟨[.dat R, .dat E, .un, .dat (rowO r), .dat (.int (w.1 : Nat)), .dat (.tup ((asc w.2).map tD)), .un], ?_, rfl⟩⟩⟩) r acc hw hl
  exact keys3 (.dat (.tup ((asc w.2).map tD))) .un (.dat R) (.dat E) (asc w.2) (.dat (.int (w.1 : Nat))) acc (by simpa using ha) ⟨_, rfl⟩ ⟨_, rfl⟩ rfl (.inr ⟨_, rfl⟩) (.inr ⟨_, rfl⟩) (.dat (rowO r)) (.inr ⟨_, rfl⟩)
theorem keys1 (R E : D) (rows : List (List Way)) (hw : ∀ r ∈ rows, ∀ w ∈ r, w.2.length ≤ 60) (acc : List D) (hl : acc.length + (givenK rows).length ≤ sizeLine) :
    loopN (bodyN q_keys_in_1 [⟨bare (seqI (slotB 3)), (tTup (tsCons (tName 4) (tsCons (tName 5) tsNil))), yesT, [4, 5, 6]⟩, ⟨bare (seqI (slotB 5)), (tName 6), yesT, [6]⟩]) [.dat R, .dat E, .un, .un, .un, .un, .un] (tName 3) yesT (rows.map rowO) acc [.dat R, .dat E, .un, .un, .un, .un, .un] =
      some (acc ++ (givenK rows).map tD, [.dat R, .dat E, .un, .un, .un, .un, .un]) := by
  have e : (givenK rows).map tD = rows.flatMap fun r => r.flatMap fun w => (asc w.2).map tD := by
    unfold givenK
    rw [map_flat]
    congr 1
    funext r
    rw [map_flat]
  rw [e]
  refine loopN_fm (gd := tName 3) (t := yesT) (body := bodyN q_keys_in_1 [⟨bare (seqI (slotB 3)), (tTup (tsCons (tName 4) (tsCons (tName 5) tsNil))), yesT, [4, 5, 6]⟩, ⟨bare (seqI (slotB 5)), (tName 6), yesT, [6]⟩]) (Γ0 := [.dat R, .dat E, .un, .un, .un, .un, .un]) (Γ := [.dat R, .dat E, .un, .un, .un, .un, .un]) rowO (fun r => r.flatMap fun w => (asc w.2).map tD) (fun r => ∀ w ∈ r, w.2.length ≤ 60) (fun r hr => ⟨[.dat R, .dat E, .un, .dat (rowO r), .un, .un, .un], rfl, .inl ⟨_, rfl, fun acc ha => ⟨[.dat R, .dat E, .un, .dat (rowO r), .un, .un, .un], ?_, rfl⟩⟩⟩) rows acc hw (by rw [← e, List.length_map]; exact hl)
  exact keys2 R E r hr acc ha
theorem keysE (R E : D) (S2 : Slot) (h2 : ∃ o, S2 = .own none o) (ends : List (List Tx)) (acc : List D) (hl : acc.length + (ends.flatMap asc).length ≤ sizeLine) :
    loopN (bodyN q_keys_in_2 [⟨bare (seqI (slotB 5)), (tName 6), yesT, [6]⟩]) [.dat R, .dat E, S2, .un, .un, .un, .un] (tName 5) yesT (ends.map endO) acc [.dat R, .dat E, S2, .un, .un, .un, .un] =
      some (acc ++ (ends.flatMap asc).map tD, [.dat R, .dat E, S2, .un, .un, .un, .un]) := by
  have e : (ends.flatMap asc).map tD = ends.flatMap fun e => (asc e).map tD := map_flat _ _ _
  rw [e]
  obtain ⟨o, rfl⟩ := h2
  refine loopN_fm endO (fun e => (asc e).map tD) (fun _ => True) (fun x _ => ⟨[.dat R, .dat E, .own none o, .un, .un, .dat (endO x), .un], rfl, .inl ⟨_, rfl, fun acc ha => ⟨[.dat R, .dat E, .own none o, .un, .un, .dat (endO x), .un], ?_, rfl⟩⟩⟩) ends acc (fun _ _ => trivial) (by rw [← e, List.length_map]; exact hl)
  exact keys3b (asc x) R E (endO x) _ ⟨_, rfl⟩ acc (by simpa using ha)
theorem keys_in_ok (rows : List (List Way)) (ends : List (List Tx)) (h : KeysOk rows ends) :
    f_keys_in [.dat (rowsO rows), .dat (endsO ends)] = .ok (.dat (.tup ((asc (allL rows ends)).map tD))) [.dat (rowsO rows), .dat (endsO ends)] := by
  have ha := h.all
  have hd := h.ded
  have hal : (allL rows ends).length = (givenK rows).length + (ends.flatMap asc).length := by unfold allL; rw [List.length_append]
  have h1 := keys1 (rowsO rows) (endsO ends) rows h.way [] (by rw [List.length_nil, sl_eq]; omega)
  have h2 := keysE (rowsO rows) (endsO ends) (.own none (.lst ((givenK rows).map tD))) ⟨_, rfl⟩ ends [] (by rw [List.length_nil, sl_eq]; omega)
  have h3 := ascending_ok (allL rows ends) ha (by omega)
  rw [List.nil_append] at h1 h2
  unfold rowsO endsO at h1 h2
  have e1 : (givenK rows).map tD ++ (ends.flatMap asc).map tD = (allL rows ends).map tD := by unfold allL; rw [List.map_append]
  have e2 : ((allL rows ends).map tD).length ≤ 16777216 := by rw [List.length_map]; omega
  simp_all! only [↓u_keys_in, ↓d_keys_in, rowsO, endsO, h1, h2, h3, List.append_nil, e1, e2]
end Nv
-- S_mach2
namespace Nv
open PySem PySem.Spec PyProof.Rows L2
end Nv
-- S_m1
-- classes: Machine
namespace Nv
open PySem PySem.Spec PyProof.Rows L2
def wyI (b : Bool) (w : Way) : D := .tup [.int (w.1 : Nat), sq b (w.2.map tD)]
def rwI (b : Bool) (r : List Way) : D := .lst (r.map (wyI b))
def rwsI (b : Bool) (rows : List (List Way)) : D := .lst (rows.map (rwI b))
def enI' (b : Bool) (e : List Tx) : D := sq b (e.map tD)
def ensI (c b : Bool) (ends : List (List Tx)) : D := sq c (ends.map (enI' b))
theorem zip_mem {α : Type} {l : List α} {p : α × Nat} {k : Nat} (h : p ∈ l.zipIdx k) : p.1 ∈ l := by
  obtain ⟨_, _, e⟩ := List.mem_zipIdx h
  rw [e]; exact List.getElem_mem _
theorem check_rows2 (b : Bool) (rows : List (List Way)) (hg : ∀ r ∈ rows, ∀ w ∈ r, w.1 < rows.length) : f_check_rows [.dat (rwsI b rows)] = .ok (.dat .non) [.dat (rwsI b rows)] := by
  simp_all! only [↓turnF_ap, kF1_ap, ↓turnC_ap, ↓kC1_ap, ↓kC2_ap, ↓kC3_ap, ↓turnN_ap, ↓kN1_ap, ↓kN2_ap, ↓kN3_ap, ↓bodyN_nil, ↓bodyN_cons, ↓kBN_ap, ↓kBC_ap, ↓bodyD_ap, ↓kBD1_ap, ↓kBD2_ap, goes_nx, goes_ct, tc_if, tn_if, fc_Machine_signs, fp_Machine_signs, fg_Machine_signs_0, fg_Machine_signs_1, fg_Machine_signs_2, fg_Machine_signs_3, fc_Machine_rows, fp_Machine_rows, fg_Machine_rows_1, fg_Machine_rows_2, fg_Machine_rows_3, fc_Machine_ends, fp_Machine_ends, fg_Machine_ends_2, fg_Machine_ends_3, fc_Machine_all_keys, fp_Machine_all_keys, fg_Machine_all_keys_3, fm_Machine_after, fm_Machine_far_keys, fm_Machine_keys_of, fm_Machine_read, ↓u_check_rows, ↓d_check_rows, rwsI]
  rw [enumD_mp, forL_k (fun p : List Way × Nat => .tup [.int (p.2 : Nat), rwI b p.1]) (rows.zipIdx 0) (fun p hp => by
    simp_all! only [↓turnF_ap, kF1_ap, ↓turnC_ap, ↓kC1_ap, ↓kC2_ap, ↓kC3_ap, ↓turnN_ap, ↓kN1_ap, ↓kN2_ap, ↓kN3_ap, ↓bodyN_nil, ↓bodyN_cons, ↓kBN_ap, ↓kBC_ap, ↓bodyD_ap, ↓kBD1_ap, ↓kBD2_ap, goes_nx, goes_ct, tc_if, tn_if, fc_Machine_signs, fp_Machine_signs, fg_Machine_signs_0, fg_Machine_signs_1, fg_Machine_signs_2, fg_Machine_signs_3, fc_Machine_rows, fp_Machine_rows, fg_Machine_rows_1, fg_Machine_rows_2, fg_Machine_rows_3, fc_Machine_ends, fp_Machine_ends, fg_Machine_ends_2, fg_Machine_ends_3, fc_Machine_all_keys, fp_Machine_all_keys, fg_Machine_all_keys_3, fm_Machine_after, fm_Machine_far_keys, fm_Machine_keys_of, fm_Machine_read, ↓b_check_rows_2, rwI]
    rw [enumD_mp, forL_k (fun q : Way × Nat => .tup [.int (q.2 : Nat), wyI b q.1]) (p.1.zipIdx 0) (fun q hq => by
      have := hg _ (zip_mem hp) _ (zip_mem hq)
      simp_all! only [↓turnF_ap, kF1_ap, ↓turnC_ap, ↓kC1_ap, ↓kC2_ap, ↓kC3_ap, ↓turnN_ap, ↓kN1_ap, ↓kN2_ap, ↓kN3_ap, ↓bodyN_nil, ↓bodyN_cons, ↓kBN_ap, ↓kBC_ap, ↓bodyD_ap, ↓kBD1_ap, ↓kBD2_ap, goes_nx, goes_ct, tc_if, tn_if, fc_Machine_signs, fp_Machine_signs, fg_Machine_signs_0, fg_Machine_signs_1, fg_Machine_signs_2, fg_Machine_signs_3, fc_Machine_rows, fp_Machine_rows, fg_Machine_rows_1, fg_Machine_rows_2, fg_Machine_rows_3, fc_Machine_ends, fp_Machine_ends, fg_Machine_ends_2, fg_Machine_ends_3, fc_Machine_all_keys, fp_Machine_all_keys, fg_Machine_all_keys_3, fm_Machine_after, fm_Machine_far_keys, fm_Machine_keys_of, fm_Machine_read, ↓b_check_rows_1, wyI])]
    simp_all! only [↓turnF_ap, kF1_ap, ↓turnC_ap, ↓kC1_ap, ↓kC2_ap, ↓kC3_ap, ↓turnN_ap, ↓kN1_ap, ↓kN2_ap, ↓kN3_ap, ↓bodyN_nil, ↓bodyN_cons, ↓kBN_ap, ↓kBC_ap, ↓bodyD_ap, ↓kBD1_ap, ↓kBD2_ap, goes_nx, goes_ct, tc_if, tn_if, fc_Machine_signs, fp_Machine_signs, fg_Machine_signs_0, fg_Machine_signs_1, fg_Machine_signs_2, fg_Machine_signs_3, fc_Machine_rows, fp_Machine_rows, fg_Machine_rows_1, fg_Machine_rows_2, fg_Machine_rows_3, fc_Machine_ends, fp_Machine_ends, fg_Machine_ends_2, fg_Machine_ends_3, fc_Machine_all_keys, fp_Machine_all_keys, fg_Machine_all_keys_3, fm_Machine_after, fm_Machine_far_keys, fm_Machine_keys_of, fm_Machine_read])]
  simp_all! only [↓turnF_ap, kF1_ap, ↓turnC_ap, ↓kC1_ap, ↓kC2_ap, ↓kC3_ap, ↓turnN_ap, ↓kN1_ap, ↓kN2_ap, ↓kN3_ap, ↓bodyN_nil, ↓bodyN_cons, ↓kBN_ap, ↓kBC_ap, ↓bodyD_ap, ↓kBD1_ap, ↓kBD2_ap, goes_nx, goes_ct, tc_if, tn_if, fc_Machine_signs, fp_Machine_signs, fg_Machine_signs_0, fg_Machine_signs_1, fg_Machine_signs_2, fg_Machine_signs_3, fc_Machine_rows, fp_Machine_rows, fg_Machine_rows_1, fg_Machine_rows_2, fg_Machine_rows_3, fc_Machine_ends, fp_Machine_ends, fg_Machine_ends_2, fg_Machine_ends_3, fc_Machine_all_keys, fp_Machine_all_keys, fg_Machine_all_keys_3, fm_Machine_after, fm_Machine_far_keys, fm_Machine_keys_of, fm_Machine_read]
theorem init2 (bk be c : Bool) (sg : Tx) (rows : List (List Way)) (ends : List (List Tx)) (h : KeysOk rows ends) (hg : ∀ r ∈ rows, ∀ w ∈ r, w.1 < rows.length) :
    f_Machine_init_v1 [.own (.ins ("Machine" : Str) []), .dat (tD sg), .dat (rwsI bk rows), .dat (ensI c be ends)] = .ok (.dat .non) [.own (some 0) (.ins ("Machine" : Str) (machF sg rows ends)), .dat (tD sg), .dat (rwsI bk rows), .dat (ensI c be ends)] := by
  have h1 := check_rows2 bk rows hg
  have h4 := keys_in_ok rows ends h
  have h5 := asc_len (allL rows ends)
  have hd := h.ded
  have h6 : (asc (allL rows ends)).length ≤ 12 := by
    unfold asc
    rw [(sortT_perm _).length_eq]
    exact hd
  have hr := h.nr
  have he := h.ne
  unfold rwsI at h1
  simp_all! only [↓turnF_ap, kF1_ap, ↓turnC_ap, ↓kC1_ap, ↓kC2_ap, ↓kC3_ap, ↓turnN_ap, ↓kN1_ap, ↓kN2_ap, ↓kN3_ap, ↓bodyN_nil, ↓bodyN_cons, ↓kBN_ap, ↓kBC_ap, ↓bodyD_ap, ↓kBD1_ap, ↓kBD2_ap, goes_nx, goes_ct, tc_if, tn_if, fc_Machine_signs, fp_Machine_signs, fg_Machine_signs_0, fg_Machine_signs_1, fg_Machine_signs_2, fg_Machine_signs_3, fc_Machine_rows, fp_Machine_rows, fg_Machine_rows_1, fg_Machine_rows_2, fg_Machine_rows_3, fc_Machine_ends, fp_Machine_ends, fg_Machine_ends_2, fg_Machine_ends_3, fc_Machine_all_keys, fp_Machine_all_keys, fg_Machine_all_keys_3, fm_Machine_after, fm_Machine_far_keys, fm_Machine_keys_of, fm_Machine_read, ↓u_Machine_init_v1, ↓d_Machine_init_v1, rwsI, h1]
  rw [compL_a (rwI bk) rowO rows (fun r hr => by
    have l1 := h.row r hr
    simp_all! only [↓turnF_ap, kF1_ap, ↓turnC_ap, ↓kC1_ap, ↓kC2_ap, ↓kC3_ap, ↓turnN_ap, ↓kN1_ap, ↓kN2_ap, ↓kN3_ap, ↓bodyN_nil, ↓bodyN_cons, ↓kBN_ap, ↓kBC_ap, ↓bodyD_ap, ↓kBD1_ap, ↓kBD2_ap, goes_nx, goes_ct, tc_if, tn_if, fc_Machine_signs, fp_Machine_signs, fg_Machine_signs_0, fg_Machine_signs_1, fg_Machine_signs_2, fg_Machine_signs_3, fc_Machine_rows, fp_Machine_rows, fg_Machine_rows_1, fg_Machine_rows_2, fg_Machine_rows_3, fc_Machine_ends, fp_Machine_ends, fg_Machine_ends_2, fg_Machine_ends_3, fc_Machine_all_keys, fp_Machine_all_keys, fg_Machine_all_keys_3, fm_Machine_after, fm_Machine_far_keys, fm_Machine_keys_of, fm_Machine_read, ↓q_Machine_init_v1_2, rwI]
    rw [compL_a (wyI bk) wayO r (fun w hw => by
      have a := ascending_sq bk w.2 (by have := h.way r hr w hw; omega) (asc_small _ (h.way r hr w hw))
      simp_all! only [↓turnF_ap, kF1_ap, ↓turnC_ap, ↓kC1_ap, ↓kC2_ap, ↓kC3_ap, ↓turnN_ap, ↓kN1_ap, ↓kN2_ap, ↓kN3_ap, ↓bodyN_nil, ↓bodyN_cons, ↓kBN_ap, ↓kBC_ap, ↓bodyD_ap, ↓kBD1_ap, ↓kBD2_ap, goes_nx, goes_ct, tc_if, tn_if, fc_Machine_signs, fp_Machine_signs, fg_Machine_signs_0, fg_Machine_signs_1, fg_Machine_signs_2, fg_Machine_signs_3, fc_Machine_rows, fp_Machine_rows, fg_Machine_rows_1, fg_Machine_rows_2, fg_Machine_rows_3, fc_Machine_ends, fp_Machine_ends, fg_Machine_ends_2, fg_Machine_ends_3, fc_Machine_all_keys, fp_Machine_all_keys, fg_Machine_all_keys_3, fm_Machine_after, fm_Machine_far_keys, fm_Machine_keys_of, fm_Machine_read, ↓q_Machine_init_v1_1, wyI, a, wayO]) (by rw [sl_eq]; omega)]
    simp_all! only [↓turnF_ap, kF1_ap, ↓turnC_ap, ↓kC1_ap, ↓kC2_ap, ↓kC3_ap, ↓turnN_ap, ↓kN1_ap, ↓kN2_ap, ↓kN3_ap, ↓bodyN_nil, ↓bodyN_cons, ↓kBN_ap, ↓kBC_ap, ↓bodyD_ap, ↓kBD1_ap, ↓kBD2_ap, goes_nx, goes_ct, tc_if, tn_if, fc_Machine_signs, fp_Machine_signs, fg_Machine_signs_0, fg_Machine_signs_1, fg_Machine_signs_2, fg_Machine_signs_3, fc_Machine_rows, fp_Machine_rows, fg_Machine_rows_1, fg_Machine_rows_2, fg_Machine_rows_3, fc_Machine_ends, fp_Machine_ends, fg_Machine_ends_2, fg_Machine_ends_3, fc_Machine_all_keys, fp_Machine_all_keys, fg_Machine_all_keys_3, fm_Machine_after, fm_Machine_far_keys, fm_Machine_keys_of, fm_Machine_read, rowO]) (by rw [sl_eq]; omega)]
  simp_all! only [↓turnF_ap, kF1_ap, ↓turnC_ap, ↓kC1_ap, ↓kC2_ap, ↓kC3_ap, ↓turnN_ap, ↓kN1_ap, ↓kN2_ap, ↓kN3_ap, ↓bodyN_nil, ↓bodyN_cons, ↓kBN_ap, ↓kBC_ap, ↓bodyD_ap, ↓kBD1_ap, ↓kBD2_ap, goes_nx, goes_ct, tc_if, tn_if, fc_Machine_signs, fp_Machine_signs, fg_Machine_signs_0, fg_Machine_signs_1, fg_Machine_signs_2, fg_Machine_signs_3, fc_Machine_rows, fp_Machine_rows, fg_Machine_rows_1, fg_Machine_rows_2, fg_Machine_rows_3, fc_Machine_ends, fp_Machine_ends, fg_Machine_ends_2, fg_Machine_ends_3, fc_Machine_all_keys, fp_Machine_all_keys, fg_Machine_all_keys_3, fm_Machine_after, fm_Machine_far_keys, fm_Machine_keys_of, fm_Machine_read, ensI, items_sq]
  rw [compL_a (enI' be) endO ends (fun e he => by
    have a := ascending_sq be e (by have := h.en e he; omega) (asc_small _ (h.en e he))
    simp_all! only [↓turnF_ap, kF1_ap, ↓turnC_ap, ↓kC1_ap, ↓kC2_ap, ↓kC3_ap, ↓turnN_ap, ↓kN1_ap, ↓kN2_ap, ↓kN3_ap, ↓bodyN_nil, ↓bodyN_cons, ↓kBN_ap, ↓kBC_ap, ↓bodyD_ap, ↓kBD1_ap, ↓kBD2_ap, goes_nx, goes_ct, tc_if, tn_if, fc_Machine_signs, fp_Machine_signs, fg_Machine_signs_0, fg_Machine_signs_1, fg_Machine_signs_2, fg_Machine_signs_3, fc_Machine_rows, fp_Machine_rows, fg_Machine_rows_1, fg_Machine_rows_2, fg_Machine_rows_3, fc_Machine_ends, fp_Machine_ends, fg_Machine_ends_2, fg_Machine_ends_3, fc_Machine_all_keys, fp_Machine_all_keys, fg_Machine_all_keys_3, fm_Machine_after, fm_Machine_far_keys, fm_Machine_keys_of, fm_Machine_read, ↓q_Machine_init_v1_3, enI', a, endO]) (by rw [sl_eq]; omega)]
  unfold rowsO endsO at h4
  simp_all! only [↓turnF_ap, kF1_ap, ↓turnC_ap, ↓kC1_ap, ↓kC2_ap, ↓kC3_ap, ↓turnN_ap, ↓kN1_ap, ↓kN2_ap, ↓kN3_ap, ↓bodyN_nil, ↓bodyN_cons, ↓kBN_ap, ↓kBC_ap, ↓bodyD_ap, ↓kBD1_ap, ↓kBD2_ap, goes_nx, goes_ct, tc_if, tn_if, fc_Machine_signs, fp_Machine_signs, fg_Machine_signs_0, fg_Machine_signs_1, fg_Machine_signs_2, fg_Machine_signs_3, fc_Machine_rows, fp_Machine_rows, fg_Machine_rows_1, fg_Machine_rows_2, fg_Machine_rows_3, fc_Machine_ends, fp_Machine_ends, fg_Machine_ends_2, fg_Machine_ends_3, fc_Machine_all_keys, fp_Machine_all_keys, fg_Machine_all_keys_3, fm_Machine_after, fm_Machine_far_keys, fm_Machine_keys_of, fm_Machine_read, h4, h6, machF, rowsO, endsO]
end Nv
-- S_mach3
namespace Nv
open PySem PySem.Spec PyProof.Rows L2
structure WkS where
  at_ : Nat
  given : List Tx
def wayAt (sg : Tx) (rows : List (List Way)) (s c : Nat) : Way := ((rows.getD s []).getD (sg.idxOf c) (0, []))
theorem wayAt_get {sg : Tx} {rows : List (List Way)} {s c : Nat} (hs : s < rows.length) (hr : ∀ r ∈ rows, r.length = sg.length) (hc : c ∈ sg) :
    ∃ r, rows[s]? = some r ∧ r ∈ rows ∧ r[sg.idxOf c]? = some (wayAt sg rows s c) ∧ wayAt sg rows s c ∈ r := by
  have hi : sg.idxOf c < sg.length := List.idxOf_lt_length_iff.mpr hc
  have hm : rows[s] ∈ rows := List.getElem_mem hs
  have hl := hr _ hm
  have e : wayAt sg rows s c = (rows[s])[sg.idxOf c]'(by omega) := by
    unfold wayAt
    have h2 : sg.idxOf c < (rows[s]).length := by omega
    simp [List.getD_eq_getElem?_getD, List.getElem?_eq_getElem hs, List.getElem?_eq_getElem h2]
  exact ⟨rows[s], List.getElem?_eq_getElem hs, hm, by rw [List.getElem?_eq_getElem (by omega), e], by rw [e]; exact List.getElem_mem _⟩
end Nv
-- S_mach4
namespace Nv
open PySem PySem.Spec PyProof.Rows L2
end Nv
-- S_m2
-- classes: Machine
namespace Nv
open PySem PySem.Spec PyProof.Rows L2
def mcD (sg : Tx) (rows : List (List Way)) (ends : List (List Tx)) : D := .ins ("Machine" : Str) (machF sg rows ends)
def mcO (sg : Tx) (rows : List (List Way)) (ends : List (List Tx)) : O := .ins ("Machine" : Str) (machF sg rows ends)
end Nv
-- S_tb
-- classes: Machine
namespace Nv
open PySem PySem.Spec PyProof.Rows L2
theorem asc_asc (l : List Tx) : asc (asc l) = asc l := asc_ext fun x => asc_mem
/-- keys of some words, ascending -/
structure KsOk (words ks : List Tx) : Prop where
  sub : ∀ k ∈ ks, k ∈ words
  n : ks.length ≤ 2
  as : asc ks = ks
theorem pick6 (p : Pn) (k : Nat) (h : PB p (k + 1)) : ∃ (v : Nat) (p' : Pn), v ≤ 2 ∧ f__law_pick [.own p.o, .dat (.lst [.int 0, .int 0, .int 0, .int 1, .int 1, .int 2])] = .ok (.dat (.int (v : Nat))) [.own (some 0) p'.o, .dat (.lst [.int 0, .int 0, .int 0, .int 1, .int 1, .int 2])] ∧ PB p' k := by
  have c1 := drawN_lt (p := p) (n := 6) (by omega)
  have hk := pickL_ok (fun i : Nat => D.int (i : Nat)) p [0, 0, 0, 1, 1, 2] (([0, 0, 0, 1, 1, 2] : List Nat)[(drawN p 6).1]'c1) (by decide) (h.mono (by omega)) (List.getElem?_eq_getElem c1)
  obtain ⟨b, eb⟩ : ∃ b, b = ([0, 0, 0, 1, 1, 2] : List Nat)[(drawN p 6).1]'c1 := ⟨_, rfl⟩
  have mb : b ∈ ([0, 0, 0, 1, 1, 2] : List Nat) := by rw [eb]; exact List.getElem_mem _
  simp only [List.mem_cons, List.not_mem_nil, or_false] at mb
  rw [← eb] at hk
  exact ⟨b, (drawN p 6).2, by omega, hk, drawN_pb h⟩
theorem keys_ok (words : List Tx) (hw : words ≠ []) (hl : words.length ≤ 100) (p : Pn) (k : Nat) (h : PB p (k + 3)) :
    ∃ ks p', f__law_keys [.own p.o, .dat (.lst (words.map tD))] = .ok (.own (.lst (ks.map tD))) [.own (some 0) p'.o, .dat (.lst (words.map tD))] ∧ KsOk words ks ∧ PB p' k := by
  obtain ⟨v, p1, v2, h1, b1⟩ := pick6 p (k + 2) (h.mono (by omega))
  obtain ⟨acc, Γ', c1, l, q, e1, e2, h2, h3, h4⟩ := compL_x (Γ0 := [.own (some 0) p1.o, .dat (.lst (words.map tD)), .dat (.int (v : Nat)), .un]) (g := tName 3) (t := yesT) (fe := q__law_keys_1) (fun i : Nat => .int (0 + (i : Nat)))
    (fun r acc Γ => ∃ (l : List Tx) (q : Pn), acc = l.map tD ∧ Γ = [.own (some 0) q.o, .dat (.lst (words.map tD)), .dat (.int (v : Nat)), .un] ∧ (∀ x ∈ l, x ∈ words) ∧ l.length + r.length ≤ 2 ∧ PB q (k + r.length))
    (fun x r acc Γ ⟨l, q, e1, e2, h2, h3, h4⟩ => by
      subst e1; subst e2
      rw [List.length_cons] at h3 h4
      have c1 := drawN_lt (p := q) (n := words.length) (List.length_pos_iff.mpr hw)
      have hk := pickL_ok tD q words (words[(drawN q words.length).1]'c1) (by omega) (h4.mono (by omega)) (List.getElem?_eq_getElem c1)
      refine ⟨some (tD (words[(drawN q words.length).1]'c1)), _, ?_, l ++ [words[(drawN q words.length).1]'c1], (drawN q words.length).2, by rw [List.map_append]; rfl, rfl, fun y hy => ?_, by rw [List.length_append, List.length_singleton]; omega, drawN_pb h4⟩
      · simp_all! only [↓turnF_ap, kF1_ap, ↓turnC_ap, ↓kC1_ap, ↓kC2_ap, ↓kC3_ap, ↓turnN_ap, ↓kN1_ap, ↓kN2_ap, ↓kN3_ap, ↓bodyN_nil, ↓bodyN_cons, ↓kBN_ap, ↓kBC_ap, ↓bodyD_ap, ↓kBD1_ap, ↓kBD2_ap, goes_nx, goes_ct, tc_if, tn_if, fc_Machine_signs, fp_Machine_signs, fg_Machine_signs_0, fg_Machine_signs_1, fg_Machine_signs_2, fg_Machine_signs_3, fc_Machine_rows, fp_Machine_rows, fg_Machine_rows_1, fg_Machine_rows_2, fg_Machine_rows_3, fc_Machine_ends, fp_Machine_ends, fg_Machine_ends_2, fg_Machine_ends_3, fc_Machine_all_keys, fp_Machine_all_keys, fg_Machine_all_keys_3, fm_Machine_after, fm_Machine_far_keys, fm_Machine_keys_of, fm_Machine_read, ↓q__law_keys_1, hk]
      · rcases List.mem_append.mp hy with hy | hy
        · exact h2 y hy
        · rw [List.mem_singleton.mp hy]; exact List.getElem_mem _) (List.range v) [] _ ⟨[], p1, rfl, rfl, fun _ h => (nomatch h), by rw [List.length_range]; simpa using v2, b1.mono (by rw [List.length_range]; omega)⟩ (by rw [sl_eq, List.length_range, List.length_nil]; omega)
  subst e1; subst e2
  rw [List.length_nil, Nat.add_zero] at h3
  have la := asc_len l
  refine ⟨asc l, q, ?_, ⟨fun x hx => h2 x (asc_mem.mp hx), by omega, asc_asc l⟩, by simpa using h4⟩
  have s1 := gSset_S (l := l) (by omega) (by omega)
  have r1 : rngOk ((v : Nat) : Int) = true := rng_t (by omega) (by omega)
  have r2 : rangeD 0 v = (List.range v).map (fun i : Nat => D.int (0 + (i : Nat))) := rfl
  rw [← r2] at c1
  simp_all! only [↓turnF_ap, kF1_ap, ↓turnC_ap, ↓kC1_ap, ↓kC2_ap, ↓kC3_ap, ↓turnN_ap, ↓kN1_ap, ↓kN2_ap, ↓kN3_ap, ↓bodyN_nil, ↓bodyN_cons, ↓kBN_ap, ↓kBC_ap, ↓bodyD_ap, ↓kBD1_ap, ↓kBD2_ap, goes_nx, goes_ct, tc_if, tn_if, fc_Machine_signs, fp_Machine_signs, fg_Machine_signs_0, fg_Machine_signs_1, fg_Machine_signs_2, fg_Machine_signs_3, fc_Machine_rows, fp_Machine_rows, fg_Machine_rows_1, fg_Machine_rows_2, fg_Machine_rows_3, fc_Machine_ends, fp_Machine_ends, fg_Machine_ends_2, fg_Machine_ends_3, fc_Machine_all_keys, fp_Machine_all_keys, fg_Machine_all_keys_3, fm_Machine_after, fm_Machine_far_keys, fm_Machine_keys_of, fm_Machine_read, ↓u__law_keys, ↓d__law_keys, h1, r1, c1, s1]
/-- drawn tables -/
structure TbOk (sg : Tx) (words : List Tx) (most : Nat) (rows : List (List Way)) (ends : List (List Tx)) : Prop where
  n0 : 0 < rows.length
  n : rows.length ≤ most
  row : ∀ r ∈ rows, r.length = sg.length
  go : ∀ r ∈ rows, ∀ w ∈ r, w.1 < rows.length
  key : ∀ r ∈ rows, ∀ w ∈ r, KsOk words w.2
  en : ends.length = rows.length
  eks : ∀ e ∈ ends, KsOk words e
theorem range_map {n : Nat} : rangeD 0 n = (List.range n).map (fun i : Nat => D.int (0 + (i : Nat))) := rfl
theorem row_comp (sg : Tx) (words : List Tx) (hw : words ≠ []) (hl : words.length ≤ 100) (hs : sg.length ≤ 10) (mo : D) (many : Nat) (hm : 0 < many) (hm2 : many ≤ 100) (st : D) (p : Pn) (k : Nat) (h : PB p (k + 4 * sg.length)) (Γ0 : Ev)
    (e0 : Γ0 = [.own (some 0) p.o, .dat (tD sg), .dat mo, .dat (.lst (words.map tD)), .dat (.int (many : Nat)), .un, .dat st, .un]) :
    ∃ (r : List Way) (p' : Pn), compL Γ0 (tName 7) yesT q__law_tables_1 (sg.map cD) [] Γ0 = some (r.map (wyI false), [.own (some 0) p'.o, .dat (tD sg), .dat mo, .dat (.lst (words.map tD)), .dat (.int (many : Nat)), .un, .dat st, .un]) ∧
      r.length = sg.length ∧ (∀ w ∈ r, w.1 < many ∧ KsOk words w.2) ∧ PB p' k := by
  obtain ⟨acc, Γ', c1, l, q, e1, e2, h2, h3, h4⟩ := compL_x (Γ0 := Γ0) (g := tName 7) (t := yesT) (fe := q__law_tables_1) cD
    (fun r acc Γ => ∃ (l : List Way) (q : Pn), acc = l.map (wyI false) ∧ Γ = [.own (some 0) q.o, .dat (tD sg), .dat mo, .dat (.lst (words.map tD)), .dat (.int (many : Nat)), .un, .dat st, .un] ∧ (∀ w ∈ l, w.1 < many ∧ KsOk words w.2) ∧ l.length + r.length = sg.length ∧ PB q (k + 4 * r.length))
    (fun x r acc Γ ⟨l, q, e1, e2, h2, h3, h4⟩ => by
      subst e1; subst e2; subst e0
      rw [List.length_cons] at h3 h4
      have hd := drawN_ok q many hm (by omega) (h4.mono (by omega)) many rfl
      have hlt := drawN_lt (p := q) (n := many) hm
      have b1 : PB (drawN q many).2 (k + 4 * r.length + 3) := drawN_pb (h4.mono (by omega))
      obtain ⟨g, q1, e3⟩ : ∃ c p', drawN q many = (c, p') := ⟨_, _, rfl⟩
      rw [e3] at hd hlt b1
      dsimp only at hd hlt b1
      obtain ⟨ks, q2, hk, ok, b2⟩ := keys_ok words hw hl q1 (k + 4 * r.length) b1
      refine ⟨some (wyI false (g, ks)), _, ?_, l ++ [(g, ks)], q2, by rw [List.map_append]; rfl, rfl, fun w hw => ?_, by rw [List.length_append, List.length_singleton]; omega, b2⟩
      · simp_all! only [↓turnF_ap, kF1_ap, ↓turnC_ap, ↓kC1_ap, ↓kC2_ap, ↓kC3_ap, ↓turnN_ap, ↓kN1_ap, ↓kN2_ap, ↓kN3_ap, ↓bodyN_nil, ↓bodyN_cons, ↓kBN_ap, ↓kBC_ap, ↓bodyD_ap, ↓kBD1_ap, ↓kBD2_ap, goes_nx, goes_ct, tc_if, tn_if, fc_Machine_signs, fp_Machine_signs, fg_Machine_signs_0, fg_Machine_signs_1, fg_Machine_signs_2, fg_Machine_signs_3, fc_Machine_rows, fp_Machine_rows, fg_Machine_rows_1, fg_Machine_rows_2, fg_Machine_rows_3, fc_Machine_ends, fp_Machine_ends, fg_Machine_ends_2, fg_Machine_ends_3, fc_Machine_all_keys, fp_Machine_all_keys, fg_Machine_all_keys_3, fm_Machine_after, fm_Machine_far_keys, fm_Machine_keys_of, fm_Machine_read, ↓q__law_tables_1, hd, hk, wyI, sq]
      · rcases List.mem_append.mp hw with hw | hw
        · exact h2 w hw
        · rw [List.mem_singleton.mp hw]; exact ⟨hlt, ok⟩) sg [] Γ0 ⟨[], p, rfl, e0, fun _ h => (nomatch h), by simp, h⟩ (by rw [sl_eq, List.length_nil]; omega)
  subst e1; subst e2
  exact ⟨l, q, c1, by simpa using h3, h2, by simpa using h4⟩
theorem tables_ok (sg : Tx) (words : List Tx) (hw : words ≠ []) (hl : words.length ≤ 100) (hs : sg.length ≤ 10) (most : Nat) (hm : 0 < most) (hm2 : most ≤ 20) (p : Pn) (k : Nat) (h : PB p (k + 1000)) :
    ∃ rows ends p', f__law_tables [.own p.o, .dat (tD sg), .dat (.int (most : Nat)), .dat (.lst (words.map tD))] = .ok (.dat (.tup [rwsI false rows, ensI false false ends])) [.own (some 0) p'.o, .dat (tD sg), .dat (.int (most : Nat)), .dat (.lst (words.map tD))] ∧ TbOk sg words most rows ends ∧ PB p' k := by
  have hd := drawN_ok p most hm (by omega) (h.mono (by omega)) most rfl
  have hlt := drawN_lt (p := p) (n := most) hm
  have b1 : PB (drawN p most).2 (k + 999) := drawN_pb (h.mono (by omega))
  obtain ⟨g, p1, e3⟩ : ∃ c p', drawN p most = (c, p') := ⟨_, _, rfl⟩
  rw [e3] at hd hlt b1
  dsimp only at hd hlt b1
  have hc : (1 : Int) + (g : Nat) = ((1 + g : Nat) : Int) := by omega
  obtain ⟨many, em⟩ : ∃ m, m = 1 + g := ⟨_, rfl⟩
  rw [← em] at hc
  have r1 : rngOk ((many : Nat) : Int) = true := rng_t (by omega) (by omega)
  obtain ⟨acc, Γ', c1, rows, p2, e1, e2, h2, h3, h4⟩ := compL_x (Γ0 := [.own (some 0) p1.o, .dat (tD sg), .dat (.int (most : Nat)), .dat (.lst (words.map tD)), .dat (.int (many : Nat)), .un, .un, .un]) (g := tName 6) (t := yesT) (fe := q__law_tables_2) (fun i : Nat => .int (0 + (i : Nat)))
    (fun r acc Γ => ∃ (l : List (List Way)) (q : Pn), acc = l.map (rwI false) ∧ Γ = [.own (some 0) q.o, .dat (tD sg), .dat (.int (most : Nat)), .dat (.lst (words.map tD)), .dat (.int (many : Nat)), .un, .un, .un] ∧ (∀ r ∈ l, r.length = sg.length ∧ ∀ w ∈ r, w.1 < many ∧ KsOk words w.2) ∧ l.length + r.length = many ∧ PB q (k + 100 + 40 * r.length))
    (fun x r acc Γ ⟨l, q, e1, e2, h2, h3, h4⟩ => by
      subst e1; subst e2
      rw [List.length_cons] at h3 h4
      obtain ⟨rw_, q2, c2, l2, k2, b2⟩ := row_comp sg words hw hl hs (.int (most : Nat)) many (by omega) (by omega) (.int (x : Nat)) q (k + 100 + 40 * r.length) (h4.mono (by omega)) _ rfl
      refine ⟨some (rwI false rw_), [.own (some 0) q2.o, .dat (tD sg), .dat (.int (most : Nat)), .dat (.lst (words.map tD)), .dat (.int (many : Nat)), .un, .un, .un], ?_, l ++ [rw_], q2, by rw [List.map_append]; rfl, rfl, fun y hy => ?_, by rw [List.length_append, List.length_singleton]; omega, b2⟩
      · simp_all! only [↓turnF_ap, kF1_ap, ↓turnC_ap, ↓kC1_ap, ↓kC2_ap, ↓kC3_ap, ↓turnN_ap, ↓kN1_ap, ↓kN2_ap, ↓kN3_ap, ↓bodyN_nil, ↓bodyN_cons, ↓kBN_ap, ↓kBC_ap, ↓bodyD_ap, ↓kBD1_ap, ↓kBD2_ap, goes_nx, goes_ct, tc_if, tn_if, fc_Machine_signs, fp_Machine_signs, fg_Machine_signs_0, fg_Machine_signs_1, fg_Machine_signs_2, fg_Machine_signs_3, fc_Machine_rows, fp_Machine_rows, fg_Machine_rows_1, fg_Machine_rows_2, fg_Machine_rows_3, fc_Machine_ends, fp_Machine_ends, fg_Machine_ends_2, fg_Machine_ends_3, fc_Machine_all_keys, fp_Machine_all_keys, fg_Machine_all_keys_3, fm_Machine_after, fm_Machine_far_keys, fm_Machine_keys_of, fm_Machine_read, ↓q__law_tables_2, c2, rwI]
      · rcases List.mem_append.mp hy with hy | hy
        · exact h2 y hy
        · rw [List.mem_singleton.mp hy]; exact ⟨l2, k2⟩) (List.range many) [] _ ⟨[], p1, rfl, rfl, fun _ h => (nomatch h), by simp, b1.mono (by rw [List.length_range]; omega)⟩ (by rw [sl_eq, List.length_range, List.length_nil]; omega)
  subst e1; subst e2
  rw [List.length_nil, Nat.add_zero] at h3
  obtain ⟨acc, Γ', c2, ends, p3, e1, e2, h5, h6, h7⟩ := compL_x (Γ0 := [.own (some 0) p2.o, .dat (tD sg), .dat (.int (most : Nat)), .dat (.lst (words.map tD)), .dat (.int (many : Nat)), .dat (rwsI false rows), .un, .un]) (g := tName 6) (t := yesT) (fe := q__law_tables_3) (fun i : Nat => .int (0 + (i : Nat)))
    (fun r acc Γ => ∃ (l : List (List Tx)) (q : Pn), acc = l.map (enI' false) ∧ Γ = [.own (some 0) q.o, .dat (tD sg), .dat (.int (most : Nat)), .dat (.lst (words.map tD)), .dat (.int (many : Nat)), .dat (rwsI false rows), .un, .un] ∧ (∀ e ∈ l, KsOk words e) ∧ l.length + r.length = many ∧ PB q (k + 3 * r.length))
    (fun x r acc Γ ⟨l, q, e1, e2, h2, h3, h4⟩ => by
      subst e1; subst e2
      rw [List.length_cons] at h3 h4
      obtain ⟨ks, q2, hk, ok, b2⟩ := keys_ok words hw hl q (k + 3 * r.length) (h4.mono (by omega))
      refine ⟨some (enI' false ks), _, ?_, l ++ [ks], q2, by rw [List.map_append]; rfl, rfl, fun y hy => ?_, by rw [List.length_append, List.length_singleton]; omega, b2⟩
      · simp_all! only [↓turnF_ap, kF1_ap, ↓turnC_ap, ↓kC1_ap, ↓kC2_ap, ↓kC3_ap, ↓turnN_ap, ↓kN1_ap, ↓kN2_ap, ↓kN3_ap, ↓bodyN_nil, ↓bodyN_cons, ↓kBN_ap, ↓kBC_ap, ↓bodyD_ap, ↓kBD1_ap, ↓kBD2_ap, goes_nx, goes_ct, tc_if, tn_if, fc_Machine_signs, fp_Machine_signs, fg_Machine_signs_0, fg_Machine_signs_1, fg_Machine_signs_2, fg_Machine_signs_3, fc_Machine_rows, fp_Machine_rows, fg_Machine_rows_1, fg_Machine_rows_2, fg_Machine_rows_3, fc_Machine_ends, fp_Machine_ends, fg_Machine_ends_2, fg_Machine_ends_3, fc_Machine_all_keys, fp_Machine_all_keys, fg_Machine_all_keys_3, fm_Machine_after, fm_Machine_far_keys, fm_Machine_keys_of, fm_Machine_read, ↓q__law_tables_3, hk, enI', sq]
      · rcases List.mem_append.mp hy with hy | hy
        · exact h2 y hy
        · rw [List.mem_singleton.mp hy]; exact ok) (List.range many) [] _ ⟨[], p2, rfl, rfl, fun _ h => (nomatch h), by simp, h4.mono (by rw [List.length_range, List.length_nil]; omega)⟩ (by rw [sl_eq, List.length_range, List.length_nil]; omega)
  subst e1; subst e2
  rw [List.length_nil, Nat.add_zero] at h6
  refine ⟨rows, ends, p3, ?_, ⟨by omega, by omega, fun r hr => (h2 r hr).1, fun r hr w hw => by rw [h3]; exact ((h2 r hr).2 w hw).1, fun r hr w hw => ((h2 r hr).2 w hw).2, by omega, h5⟩, by simpa using h7⟩
  rw [← range_map] at c1 c2
  unfold rwsI at c2
  simp_all! only [↓turnF_ap, kF1_ap, ↓turnC_ap, ↓kC1_ap, ↓kC2_ap, ↓kC3_ap, ↓turnN_ap, ↓kN1_ap, ↓kN2_ap, ↓kN3_ap, ↓bodyN_nil, ↓bodyN_cons, ↓kBN_ap, ↓kBC_ap, ↓bodyD_ap, ↓kBD1_ap, ↓kBD2_ap, goes_nx, goes_ct, tc_if, tn_if, fc_Machine_signs, fp_Machine_signs, fg_Machine_signs_0, fg_Machine_signs_1, fg_Machine_signs_2, fg_Machine_signs_3, fc_Machine_rows, fp_Machine_rows, fg_Machine_rows_1, fg_Machine_rows_2, fg_Machine_rows_3, fc_Machine_ends, fp_Machine_ends, fg_Machine_ends_2, fg_Machine_ends_3, fc_Machine_all_keys, fp_Machine_all_keys, fg_Machine_all_keys_3, fm_Machine_after, fm_Machine_far_keys, fm_Machine_keys_of, fm_Machine_read, ↓u__law_tables, ↓d__law_tables, hd, hc, r1, c1, c2, rwsI, ensI, sq]
end Nv
-- S_rd
-- classes: Machine
namespace Nv
open PySem PySem.Spec PyProof.Rows L2
def rdStep (sg : Tx) (rows : List (List Way)) (s : WkS) (c : Nat) : WkS := ⟨(wayAt sg rows s.at_ c).1, s.given ++ (wayAt sg rows s.at_ c).2⟩
def rdRun (sg : Tx) (rows : List (List Way)) (t : Tx) (s : WkS) : WkS := t.foldl (rdStep sg rows) s
def readK (sg : Tx) (rows : List (List Way)) (ends : List (List Tx)) (t : Tx) : List Tx := asc ((rdRun sg rows t ⟨0, []⟩).given ++ ends.getD (rdRun sg rows t ⟨0, []⟩).at_ [])
/-- all keys are among some words -/
structure InW (words : List Tx) (rows : List (List Way)) (ends : List (List Tx)) : Prop where
  way : ∀ r ∈ rows, ∀ w ∈ r, ∀ k ∈ w.2, k ∈ words
  en : ∀ e ∈ ends, ∀ k ∈ e, k ∈ words
/-- the machine's tables are whole -/
structure MtOk (sg : Tx) (rows : List (List Way)) (ends : List (List Tx)) : Prop where
  go : ∀ r ∈ rows, ∀ w ∈ r, w.1 < rows.length
  row : ∀ r ∈ rows, r.length = sg.length
  en : ends.length = rows.length
  n0 : 0 < rows.length
  n : rows.length ≤ 16
  s : sg.length ≤ 4
  kn : ∀ r ∈ rows, ∀ w ∈ r, w.2.length ≤ 8
  el : ∀ e ∈ ends, e.length ≤ 8
theorem nd_le {words l : List Tx} (nd : l.Nodup) (h : ∀ x ∈ l, x ∈ words) : l.length ≤ words.length := List.Nodup.length_le_of_subset nd h
theorem asc_le_w {words l : List Tx} (h : ∀ x ∈ l, x ∈ words) : (asc l).length ≤ words.length := nd_le (asc_nd l) fun x hx => h x (asc_mem.mp hx)
theorem ded_le_w {words l : List Tx} (h : ∀ x ∈ l, x ∈ words) : (ded [] l).length ≤ words.length := nd_le (ded_nd l [] List.nodup_nil) fun x hx => h x (by rw [ded_mem] at hx; simpa using hx)
theorem end_get {ends : List (List Tx)} {i : Nat} (h : i < ends.length) : ends[i]? = some (ends.getD i []) ∧ ends.getD i [] ∈ ends := by
  rw [List.getD_eq_getElem?_getD, List.getElem?_eq_getElem h]
  exact ⟨rfl, List.getElem_mem h⟩
section
variable {sg : Tx} {rows : List (List Way)} {ends : List (List Tx)} {words : List Tx}
theorem rd_at (h : MtOk sg rows ends) : ∀ (t : Tx) (s : WkS), s.at_ < rows.length → (∀ c ∈ t, c ∈ sg) → (rdRun sg rows t s).at_ < rows.length
  | [], s, hs, _ => hs
  | c :: t, s, hs, hc => rd_at h t (rdStep sg rows s c) (by
      obtain ⟨r, h1, h2, h3, h4⟩ := wayAt_get hs h.row (hc c List.mem_cons_self)
      exact h.go r h2 _ h4) fun d hd => hc d (List.mem_cons_of_mem _ hd)
theorem rd_in (h : MtOk sg rows ends) (w : InW words rows ends) : ∀ (t : Tx) (s : WkS), s.at_ < rows.length → (∀ c ∈ t, c ∈ sg) → (∀ k ∈ s.given, k ∈ words) → ∀ k ∈ (rdRun sg rows t s).given, k ∈ words
  | [], s, _, _, hg => hg
  | c :: t, s, hs, hc, hg => by
    obtain ⟨r, h1, h2, h3, h4⟩ := wayAt_get hs h.row (hc c List.mem_cons_self)
    exact rd_in h w t (rdStep sg rows s c) (h.go r h2 _ h4) (fun d hd => hc d (List.mem_cons_of_mem _ hd)) fun k hk => by
      rcases List.mem_append.mp hk with hk | hk
      · exact hg k hk
      · exact w.way r h2 _ h4 k hk
theorem read_ok (h : MtOk sg rows ends) (w : InW words rows ends) (hw : words.length ≤ 60) (t : Tx) (hc : ∀ c ∈ t, c ∈ sg) (hl : t.length ≤ 300) :
    f__law_read_v2 [.dat (tD sg), .dat (.tup [rwsI false rows, ensI false false ends]), .dat (tD t)] = .ok (.dat (.tup [.int ((rdRun sg rows t ⟨0, []⟩).at_ : Nat), .tup ((readK sg rows ends t).map tD)])) [.dat (tD sg), .dat (.tup [rwsI false rows, ensI false false ends]), .dat (tD t)] := by
  have hs := h.s
  have lo := forL_s (g := tName 7) (f := b__law_read_v2_1) (fun s : WkS => [.dat (tD sg), .dat (.tup [rwsI false rows, ensI false false ends]), .dat (tD t), .dat (rwsI false rows), .dat (ensI false false ends), .dat (.int (s.at_ : Nat)), .own none (.lst (s.given.map tD)), .un, .un]) cD (rdStep sg rows)
    (fun l s => s.at_ < rows.length ∧ (∀ c ∈ l, c ∈ sg) ∧ s.given.length + 8 * l.length ≤ 3000) t ⟨0, []⟩ ⟨h.n0, hc, by show 0 + _ ≤ _; omega⟩ fun c l s ⟨h1, h2, h3⟩ => by
      rw [List.length_cons] at h3
      have hc1 := h2 c List.mem_cons_self
      obtain ⟨r, g1, g2, g3, g4⟩ := wayAt_get h1 h.row hc1
      have kn := h.kn r g2 _ g4
      have e0 : (rdStep sg rows s c).given.length = s.given.length + (wayAt sg rows s.at_ c).2.length := by show (s.given ++ _).length = _; rw [List.length_append]
      refine ⟨?_, h.go r g2 _ g4, fun x hx => h2 x (List.mem_cons_of_mem _ hx), by omega⟩
      have hi : sg.idxOf c < sg.length := List.idxOf_lt_length_iff.mpr hc1
      have q3 := idxS_ok hc1
      have q5 : (rows.map (rwI false))[s.at_]? = some (.lst (r.map (wyI false))) := by rw [List.getElem?_map, g1]; rfl
      have q6 : (r.map (wyI false))[sg.idxOf c]? = some (.tup [.int ((wayAt sg rows s.at_ c).1 : Nat), .lst ((wayAt sg rows s.at_ c).2.map tD)]) := by rw [List.getElem?_map, g3]; rfl
      have q8 : s.given.map tD ++ (wayAt sg rows s.at_ c).2.map tD = (rdStep sg rows s c).given.map tD := by
        show _ = (s.given ++ _).map tD
        rw [List.map_append]
      have q0 : (rdStep sg rows s c).at_ = (wayAt sg rows s.at_ c).1 := rfl
      simp_all! only [↓turnF_ap, kF1_ap, ↓turnC_ap, ↓kC1_ap, ↓kC2_ap, ↓kC3_ap, ↓turnN_ap, ↓kN1_ap, ↓kN2_ap, ↓kN3_ap, ↓bodyN_nil, ↓bodyN_cons, ↓kBN_ap, ↓kBC_ap, ↓bodyD_ap, ↓kBD1_ap, ↓kBD2_ap, goes_nx, goes_ct, tc_if, tn_if, fc_Machine_signs, fp_Machine_signs, fg_Machine_signs_0, fg_Machine_signs_1, fg_Machine_signs_2, fg_Machine_signs_3, fc_Machine_rows, fp_Machine_rows, fg_Machine_rows_1, fg_Machine_rows_2, fg_Machine_rows_3, fc_Machine_ends, fp_Machine_ends, fg_Machine_ends_2, fg_Machine_ends_3, fc_Machine_all_keys, fp_Machine_all_keys, fg_Machine_all_keys_3, fm_Machine_after, fm_Machine_far_keys, fm_Machine_keys_of, fm_Machine_read, ↓b__law_read_v2_1, rwsI, q3, q5, q6, q8, q0]
  have e2 : t.foldl (rdStep sg rows) ⟨0, []⟩ = rdRun sg rows t ⟨0, []⟩ := rfl
  rw [e2] at lo
  dsimp only at lo
  rw [List.map_nil] at lo
  have q0 : (((0 : Nat)) : Int) = 0 := rfl
  rw [q0] at lo
  have at1 := rd_at h t ⟨0, []⟩ h.n0 hc
  obtain ⟨r, er⟩ : ∃ r, r = rdRun sg rows t ⟨0, []⟩ := ⟨_, rfl⟩
  have gl : r.given.length ≤ 2400 := by
    have : ∀ (l : Tx) (s : WkS), s.at_ < rows.length → (∀ c ∈ l, c ∈ sg) → (rdRun sg rows l s).given.length ≤ s.given.length + 8 * l.length := by
      intro l
      induction l with
      | nil => intro s _ _; exact Nat.le_refl _
      | cons c l ih =>
        intro s hs hc
        obtain ⟨r, g1, g2, g3, g4⟩ := wayAt_get hs h.row (hc c List.mem_cons_self)
        have kn := h.kn r g2 _ g4
        have := ih (rdStep sg rows s c) (h.go r g2 _ g4) fun d hd => hc d (List.mem_cons_of_mem _ hd)
        have e0 : (rdStep sg rows s c).given.length = s.given.length + (wayAt sg rows s.at_ c).2.length := by show (s.given ++ _).length = _; rw [List.length_append]
        have e1 : rdRun sg rows (c :: l) s = rdRun sg rows l (rdStep sg rows s c) := rfl
        rw [e1, List.length_cons]
        omega
    have := this t ⟨0, []⟩ h.n0 hc
    rw [er]
    simp only [List.length_nil] at this
    omega
  have gw := rd_in h w t ⟨0, []⟩ h.n0 hc (fun k hk => nomatch hk)
  unfold readK
  rw [← er] at lo at1 gw
  rw [← er]
  obtain ⟨g1, g2⟩ := end_get (ends := ends) (i := r.at_) (by rw [h.en]; exact at1)
  have le := h.el _ g2
  have q2 : (ends.map (enI' false))[r.at_]? = some (.lst ((ends.getD r.at_ []).map tD)) := by rw [List.getElem?_map, g1]; rfl
  have q4 : r.given.map tD ++ (ends.getD r.at_ []).map tD = (r.given ++ ends.getD r.at_ []).map tD := by rw [List.map_append]
  have aw := asc_le_w (words := words) (l := r.given ++ ends.getD r.at_ []) fun k hk => by
    rcases List.mem_append.mp hk with hk | hk
    · exact gw k hk
    · exact w.en _ g2 k hk
  obtain ⟨L, eL⟩ : ∃ L, L = r.given ++ ends.getD r.at_ [] := ⟨_, rfl⟩
  have lL : L.length ≤ 2500 := by rw [eL, List.length_append]; omega
  rw [← eL] at aw q4
  rw [← eL]
  have s1 := gSset_S (l := L) (by omega) (by omega)
  have x1 : atI ([rwsI false rows, ensI false false ends] : List D) 0 = some (rwsI false rows) := rfl
  have ll : r.given.length + (ends.getD r.at_ []).length ≤ 16777216 := by omega
  have e3 : ensI false false ends = .lst (ends.map (enI' false)) := rfl
  simp_all! only [↓turnF_ap, kF1_ap, ↓turnC_ap, ↓kC1_ap, ↓kC2_ap, ↓kC3_ap, ↓turnN_ap, ↓kN1_ap, ↓kN2_ap, ↓kN3_ap, ↓bodyN_nil, ↓bodyN_cons, ↓kBN_ap, ↓kBC_ap, ↓bodyD_ap, ↓kBD1_ap, ↓kBD2_ap, goes_nx, goes_ct, tc_if, tn_if, fc_Machine_signs, fp_Machine_signs, fg_Machine_signs_0, fg_Machine_signs_1, fg_Machine_signs_2, fg_Machine_signs_3, fc_Machine_rows, fp_Machine_rows, fg_Machine_rows_1, fg_Machine_rows_2, fg_Machine_rows_3, fc_Machine_ends, fp_Machine_ends, fg_Machine_ends_2, fg_Machine_ends_3, fc_Machine_all_keys, fp_Machine_all_keys, fg_Machine_all_keys_3, fm_Machine_after, fm_Machine_far_keys, fm_Machine_keys_of, fm_Machine_read, ↓u__law_read_v2, ↓d__law_read_v2, lo, e3]
  rw [e3] at lo
  simp_all! only [↓turnF_ap, kF1_ap, ↓turnC_ap, ↓kC1_ap, ↓kC2_ap, ↓kC3_ap, ↓turnN_ap, ↓kN1_ap, ↓kN2_ap, ↓kN3_ap, ↓bodyN_nil, ↓bodyN_cons, ↓kBN_ap, ↓kBC_ap, ↓bodyD_ap, ↓kBD1_ap, ↓kBD2_ap, goes_nx, goes_ct, tc_if, tn_if, fc_Machine_signs, fp_Machine_signs, fg_Machine_signs_0, fg_Machine_signs_1, fg_Machine_signs_2, fg_Machine_signs_3, fc_Machine_rows, fp_Machine_rows, fg_Machine_rows_1, fg_Machine_rows_2, fg_Machine_rows_3, fc_Machine_ends, fp_Machine_ends, fg_Machine_ends_2, fg_Machine_ends_3, fc_Machine_all_keys, fp_Machine_all_keys, fg_Machine_all_keys_3, fm_Machine_after, fm_Machine_far_keys, fm_Machine_keys_of, fm_Machine_read, lo, q2, q4, s1]
end
end Nv
-- S_13a
namespace Nv
open PySem PySem.Spec PyProof.Rows L2
abbrev Nd := Nat × Bool
abbrev En := Nd × Tx
def adN (E : List En) (q : En) : List En := if q.1 ∈ E.map Prod.fst then E else E ++ [q]
def stN (go : Nd → Nat → Nd) (p : En) (l : Tx) (E : List En) : List En := l.foldl (fun E c => adN E (go p.1 c, p.2 ++ [c])) E
def d0N : En := ((0, false), [])
def bfN (sg : Tx) (go : Nd → Nat → Nd) : Nat → List En
  | 0 => [d0N]
  | n + 1 => stN go ((bfN sg go n).getD n d0N) sg (bfN sg go n)
def rkT (sg : Tx) (t : Tx) : Nat := t.foldl (fun n c => n * sg.length + sg.idxOf c + 1) 0
def ndR (go : Nd → Nat → Nd) (t : Tx) : Nd := t.foldl go (0, false)
section
variable {sg : Tx} {go : Nd → Nat → Nd}
theorem num_snoc (t : Tx) (c : Nat) : rkT sg (t ++ [c]) = rkT sg t * sg.length + sg.idxOf c + 1 := by
  unfold rkT
  rw [List.foldl_append]
  rfl
theorem ndR_snoc (t : Tx) (c : Nat) : ndR go (t ++ [c]) = go (ndR go t) c := by
  unfold ndR
  rw [List.foldl_append]
  rfl
theorem adN_pre (E : List En) (q : En) : E <+: adN E q := by
  unfold adN
  split
  · exact List.prefix_refl _
  · exact List.prefix_append _ _
structure NI (sg : Tx) (go : Nd → Nat → Nd) (E : List En) (b : Nat) : Prop where
  so : ∀ e ∈ E, e.1 = ndR go e.2 ∧ ∀ c ∈ e.2, c ∈ sg
  st : E.Pairwise fun x y => rkT sg x.2 < rkT sg y.2
  nd : (E.map Prod.fst).Nodup
  bd : ∀ e ∈ E, rkT sg e.2 ≤ b
theorem NI.add {E : List En} {b : Nat} (h : NI sg go E b) (q : En) (hq : q.1 = ndR go q.2) (hs : ∀ c ∈ q.2, c ∈ sg) (hb : b < rkT sg q.2) :
    NI sg go (adN E q) (rkT sg q.2) ∧ ∃ e ∈ adN E q, e.1 = q.1 ∧ rkT sg e.2 ≤ rkT sg q.2 := by
  unfold adN
  split
  · rename_i hm
    obtain ⟨e, he, e1⟩ := List.mem_map.mp hm
    exact ⟨⟨h.so, h.st, h.nd, fun e he => Nat.le_trans (h.bd e he) (by omega)⟩, e, he, e1, Nat.le_trans (h.bd e he) (by omega)⟩
  · rename_i hm
    refine ⟨⟨fun e he => ?_, ?_, ?_, fun e he => ?_⟩, q, by simp, rfl, Nat.le_refl _⟩
    · rcases List.mem_append.mp he with he | he
      · exact h.so e he
      · rw [List.mem_singleton.mp he]; exact ⟨hq, hs⟩
    · rw [List.pairwise_append]
      exact ⟨h.st, List.pairwise_singleton _ _, fun x hx y hy => by
        rw [List.mem_singleton.mp hy]
        exact Nat.lt_of_le_of_lt (h.bd x hx) hb⟩
    · rw [List.map_append, List.nodup_append]
      exact ⟨h.nd, List.pairwise_singleton _ _, fun a ha b hb e => hm (by rw [List.map_singleton, List.mem_singleton] at hb; rw [← hb, ← e]; exact ha)⟩
    · rcases List.mem_append.mp he with he | he
      · exact Nat.le_trans (h.bd e he) (by omega)
      · rw [List.mem_singleton.mp he]; exact Nat.le_refl _
theorem st_fold (p : En) (hp : p.1 = ndR go p.2) (hps : ∀ c ∈ p.2, c ∈ sg) : ∀ (l pre : Tx) (E : List En), sg = pre ++ l → sg.Nodup → NI sg go E (rkT sg p.2 * sg.length + pre.length) →
    NI sg go (stN go p l E) (rkT sg p.2 * sg.length + pre.length + l.length) ∧ E <+: stN go p l E ∧ ∀ c ∈ l, ∃ e ∈ stN go p l E, e.1 = go p.1 c ∧ rkT sg e.2 ≤ rkT sg (p.2 ++ [c])
  | [], pre, E, _, _, h => ⟨h, List.prefix_refl _, fun c hc => nomatch hc⟩
  | c :: l, pre, E, e, nd, h => by
    have ix : sg.idxOf c = pre.length := by
      rw [e] at nd ⊢
      rw [List.idxOf_append, if_neg fun z => (List.nodup_append.mp nd).2.2 c z c List.mem_cons_self rfl, List.idxOf_cons_self, Nat.zero_add]
    have hc : c ∈ sg := by rw [e]; simp
    obtain ⟨h1, e1, he1, h2, h3⟩ := h.add (go p.1 c, p.2 ++ [c]) (by show go p.1 c = ndR go (p.2 ++ [c]); rw [ndR_snoc, ← hp]) (fun d hd => by
      rcases List.mem_append.mp hd with hd | hd
      · exact hps d hd
      · rw [List.mem_singleton.mp hd]; exact hc) (by show _ < rkT sg (p.2 ++ [c]); rw [num_snoc, ix]; omega)
    have nb : rkT sg (p.2 ++ [c]) = rkT sg p.2 * sg.length + (pre ++ [c]).length := by rw [num_snoc, ix, List.length_append, List.length_singleton]; omega
    dsimp only at h1
    rw [nb] at h1
    obtain ⟨g1, g2, g3⟩ := st_fold p hp hps l (pre ++ [c]) (adN E (go p.1 c, p.2 ++ [c])) (by rw [e, List.append_assoc]; rfl) nd h1
    have es : stN go p (c :: l) E = stN go p l (adN E (go p.1 c, p.2 ++ [c])) := rfl
    rw [es]
    refine ⟨by rw [List.length_append, List.length_singleton] at g1; rw [List.length_cons, show rkT sg p.2 * sg.length + pre.length + (l.length + 1) = rkT sg p.2 * sg.length + (pre.length + 1) + l.length by omega]; exact g1, (adN_pre _ _).trans g2, fun d hd => ?_⟩
    rcases List.mem_cons.mp hd with rfl | hd
    · exact ⟨e1, g2.subset he1, h2, h3⟩
    · exact g3 d hd
structure BN (sg : Tx) (go : Nd → Nat → Nd) (n : Nat) : Prop where
  ni : ∃ b, NI sg go (bfN sg go n) b ∧ ∀ p, (bfN sg go n)[n]? = some p → b ≤ rkT sg p.2 * sg.length
  le : n ≤ (bfN sg go n).length
  cov : ∀ i, i < n → ∃ e, (bfN sg go n)[i]? = some e ∧ ∀ c ∈ sg, ∃ e' ∈ bfN sg go n, e'.1 = go e.1 c ∧ rkT sg e'.2 ≤ rkT sg (e.2 ++ [c])
  z : (bfN sg go n)[0]? = some d0N
theorem bn0 : BN sg go 0 := by
  refine ⟨⟨0, ⟨fun e he => ?_, List.pairwise_singleton _ _, List.pairwise_singleton _ _, fun e he => ?_⟩, fun p hp => Nat.zero_le _⟩, Nat.zero_le _, fun i hi => absurd hi (Nat.not_lt_zero _), rfl⟩
  · rw [List.mem_singleton.mp he]; exact ⟨rfl, fun c hc => nomatch hc⟩
  · rw [List.mem_singleton.mp he]; exact Nat.le_refl 0
theorem preN_get {l m : List En} (h : l <+: m) {i : Nat} (hi : i < l.length) : m[i]? = l[i]? := by
  obtain ⟨r, rfl⟩ := h
  rw [List.getElem?_append_left hi]
theorem st_lt {E : List En} (h : E.Pairwise fun x y => rkT sg x.2 < rkT sg y.2) {i j : Nat} {x y : En} (hi : E[i]? = some x) (hj : E[j]? = some y) (l : i < j) : rkT sg x.2 < rkT sg y.2 := by
  obtain ⟨li, ei⟩ := List.getElem?_eq_some_iff.mp hi
  obtain ⟨lj, ej⟩ := List.getElem?_eq_some_iff.mp hj
  rw [← ei, ← ej]
  exact List.pairwise_iff_getElem.mp h i j li lj l
theorem BN.next {n : Nat} (nd : sg.Nodup) (h : BN sg go n) (hn : n < (bfN sg go n).length) : BN sg go (n + 1) ∧ bfN sg go n <+: bfN sg go (n + 1) := by
  obtain ⟨b, hi, hb⟩ := h.ni
  obtain ⟨p, ep⟩ : ∃ p, p = (bfN sg go n).getD n d0N := ⟨_, rfl⟩
  have gp : (bfN sg go n)[n]? = some p := by rw [ep, List.getD_eq_getElem?_getD, List.getElem?_eq_getElem hn]; rfl
  have mp : p ∈ bfN sg go n := List.mem_of_getElem? gp
  have eB : bfN sg go (n + 1) = stN go p sg (bfN sg go n) := by rw [ep]; rfl
  obtain ⟨g1, g2, g3⟩ := st_fold (sg := sg) (go := go) p (hi.so p mp).1 (hi.so p mp).2 sg [] (bfN sg go n) rfl nd ⟨hi.so, hi.st, hi.nd, fun e he => Nat.le_trans (hi.bd e he) (by have := hb p gp; simpa using this)⟩
  rw [← eB] at g1 g2 g3
  rw [List.length_nil, Nat.add_zero] at g1
  have ll := g2.length_le
  refine ⟨⟨⟨_, g1, fun p' hp' => ?_⟩, by omega, fun i hi' => ?_, by rw [preN_get g2 (by omega)]; exact h.z⟩, g2⟩
  · have lt := st_lt g1.st (by rw [preN_get g2 hn]; exact gp) hp' (Nat.lt_succ_self n)
    have := Nat.mul_le_mul_right sg.length (show rkT sg p.2 + 1 ≤ rkT sg p'.2 by omega)
    rw [Nat.add_mul, Nat.one_mul] at this
    exact this
  · by_cases z : i < n
    · obtain ⟨e, e1, e2⟩ := h.cov i z
      refine ⟨e, by rw [preN_get g2 (by omega)]; exact e1, fun c hc => ?_⟩
      obtain ⟨e', m1, m2, m3⟩ := e2 c hc
      exact ⟨e', g2.subset m1, m2, m3⟩
    · have : i = n := by omega
      subst this
      exact ⟨p, by rw [preN_get g2 hn]; exact gp, g3⟩
/-- every text ahead of the place of the search is told -/
theorem BN.reach {n : Nat} (h : BN sg go n) : ∀ (m : Nat) (u : Tx), u.length = m → (∀ c ∈ u, c ∈ sg) → (∀ p, (bfN sg go n)[n]? = some p → rkT sg u < rkT sg p.2) →
    ∃ i, i < n ∧ ∃ e, (bfN sg go n)[i]? = some e ∧ e.1 = ndR go u ∧ rkT sg e.2 ≤ rkT sg u := by
  obtain ⟨b, hi, hb⟩ := h.ni
  intro m
  induction m with
  | zero =>
    intro u hu _ hp
    have : u = [] := List.length_eq_zero_iff.mp hu
    subst this
    have n0 : 0 < n := by
      rcases Nat.eq_zero_or_pos n with z | z
      · subst z
        exact absurd (hp _ h.z) (Nat.lt_irrefl _)
      · exact z
    exact ⟨0, n0, d0N, h.z, rfl, Nat.le_refl _⟩
  | succ m ih =>
    intro u hu hs hp
    rcases List.eq_nil_or_concat u with rfl | ⟨v, c, rfl⟩
    · cases hu
    · rw [List.concat_eq_append] at hu hs hp ⊢
      have hc : c ∈ sg := hs c (by simp)
      have kp : 0 < sg.length := List.length_pos_of_mem hc
      have lv : rkT sg v < rkT sg (v ++ [c]) := by
        rw [num_snoc]
        have := Nat.le_mul_of_pos_right (rkT sg v) kp
        omega
      obtain ⟨i, i1, e, e1, e2, e3⟩ := ih v (by simpa using hu) (fun d hd => hs d (List.mem_append_left _ hd)) fun p q => Nat.lt_trans lv (hp p q)
      obtain ⟨e0, x1, x2⟩ := h.cov i i1
      rw [e1] at x1
      cases x1
      obtain ⟨e', m1, m2, m3⟩ := x2 c hc
      have ln : rkT sg e'.2 ≤ rkT sg (v ++ [c]) := by
        refine Nat.le_trans m3 ?_
        rw [num_snoc, num_snoc]
        have := Nat.mul_le_mul_right sg.length e3
        omega
      obtain ⟨j, j1⟩ := List.getElem?_of_mem m1
      refine ⟨j, ?_, e', j1, by rw [m2, ndR_snoc, e2], ln⟩
      rcases Nat.lt_or_ge j n with z | z
      · exact z
      · have lj := (List.getElem?_eq_some_iff.mp j1).1
        have gn : (bfN sg go n)[n]? = some ((bfN sg go n)[n]'(by omega)) := List.getElem?_eq_getElem (by omega)
        have l1 := hp _ gn
        rcases Nat.lt_or_eq_of_le z with z | z
        · have := st_lt hi.st gn j1 z
          omega
        · subst z
          have e5 := Option.some.inj (j1.symm.trans gn)
          rw [← e5] at l1
          omega
/-- the search -/
def srN (sg : Tx) (go : Nd → Nat → Nd) (W : Nd → Bool) : Nat → Nat → Option Tx
  | 0, _ => none
  | f + 1, n => if n < (bfN sg go n).length then (if W ((bfN sg go n).getD n d0N).1 = true then some ((bfN sg go n).getD n d0N).2 else srN sg go W f (n + 1)) else none
theorem nd_lt {a : Nat} (ha : 0 < a) (hg : ∀ (p : Nd) (c : Nat), p.1 < a → c ∈ sg → (go p c).1 < a) : ∀ (t : Tx) (p : Nd), p.1 < a → (∀ c ∈ t, c ∈ sg) → (t.foldl go p).1 < a
  | [], p, h, _ => h
  | c :: t, p, h, hs => nd_lt ha hg t (go p c) (hg p c h (hs c List.mem_cons_self)) fun d hd => hs d (List.mem_cons_of_mem _ hd)
theorem BN.few {a n : Nat} (h : BN sg go n) (ha : 0 < a) (hg : ∀ (p : Nd) (c : Nat), p.1 < a → c ∈ sg → (go p c).1 < a) : (bfN sg go n).length ≤ a * 2 := by
  obtain ⟨b, hi, hb⟩ := h.ni
  have : ((bfN sg go n).map Prod.fst).length ≤ ((List.range a).flatMap fun i => [(i, false), (i, true)]).length := List.Nodup.length_le_of_subset hi.nd fun p hp => by
    obtain ⟨e, he, rfl⟩ := List.mem_map.mp hp
    obtain ⟨h1, h2⟩ := hi.so e he
    have := nd_lt ha hg e.2 (0, false) ha h2
    rw [h1]
    refine List.mem_flatMap.mpr ⟨(ndR go e.2).1, List.mem_range.mpr this, ?_⟩
    obtain ⟨x, y⟩ := ndR go e.2
    cases y <;> simp
  rw [List.length_map, List.length_flatMap] at this
  have e : ((List.range a).map fun i : Nat => [((i, false) : Nd), (i, true)].length) = (List.range a).map fun _ => 2 := rfl
  rw [e, List.map_const', List.sum_replicate_nat, List.length_range] at this
  exact this
theorem sr_ok {a : Nat} (nd : sg.Nodup) (ha : 0 < a) (hg : ∀ (p : Nd) (c : Nat), p.1 < a → c ∈ sg → (go p c).1 < a) (W : Nd → Bool) : ∀ (f n : Nat), BN sg go n → (∀ i, i < n → ∀ e, (bfN sg go n)[i]? = some e → W e.1 = false) → a * 2 < f + n →
    match srN sg go W f n with
    | some t => (∀ c ∈ t, c ∈ sg) ∧ W (ndR go t) = true ∧ ∀ u : Tx, (∀ c ∈ u, c ∈ sg) → W (ndR go u) = true → rkT sg t ≤ rkT sg u
    | none => ∀ u : Tx, (∀ c ∈ u, c ∈ sg) → W (ndR go u) = false
  | 0, n, h, hw, hf => by
    have := h.few ha hg
    have := h.le
    omega
  | f + 1, n, h, hw, hf => by
    obtain ⟨b, hi, hb⟩ := h.ni
    unfold srN
    by_cases hn : n < (bfN sg go n).length
    · rw [if_pos hn]
      obtain ⟨p, ep⟩ : ∃ p, p = (bfN sg go n).getD n d0N := ⟨_, rfl⟩
      have gp : (bfN sg go n)[n]? = some p := by rw [ep, List.getD_eq_getElem?_getD, List.getElem?_eq_getElem hn]; rfl
      have mp : p ∈ bfN sg go n := List.mem_of_getElem? gp
      rw [← ep]
      by_cases hW : W p.1 = true
      · rw [if_pos hW]
        dsimp only
        obtain ⟨s1, s2⟩ := hi.so p mp
        refine ⟨s2, by rw [← s1]; exact hW, fun u hu hWu => ?_⟩
        rcases Nat.lt_or_ge (rkT sg u) (rkT sg p.2) with z | z
        · obtain ⟨i, i1, e, e1, e2, e3⟩ := h.reach _ u rfl hu fun p' hp' => by rw [gp] at hp'; cases hp'; exact z
          have := hw i i1 e e1
          rw [e2, hWu] at this
          cases this
        · exact z
      · rw [if_neg hW]
        obtain ⟨h2, pre⟩ := h.next nd hn
        refine sr_ok nd ha hg W f (n + 1) h2 (fun i hi2 e he => ?_) (by omega)
        rw [preN_get pre (by omega)] at he
        rcases Nat.lt_or_ge i n with z | z
        · exact hw i z e he
        · have : i = n := by omega
          subst this
          rw [gp] at he
          cases he
          exact Bool.eq_false_iff.mpr hW
    · rw [if_neg hn]
      dsimp only
      intro u hu
      obtain ⟨i, i1, e, e1, e2, e3⟩ := h.reach _ u rfl hu fun p' hp' => absurd (List.getElem?_eq_some_iff.mp hp').1 hn
      rw [← e2]
      exact hw i i1 e e1
end
end Nv
-- S_pen2
namespace Nv
open PySem PySem.Spec PyProof.Rows L2
theorem pen_ok (ns : List Int) : f__law_pen [.dat (.fz (ns.map .int))] = .ok (.own (({ cells := ns.take 63, at_ := 0, left := 0 } : Pn).o)) [.dat (.fz (ns.map .int))] := by
  have e : cutL (ns.map D.int) none (some 63) = (ns.take 63).map .int := by
    rw [List.map_take]
    exact cutL_0n (j := 63)
  have c1 : ((((D.str ("cells" : Str)).key.isSome && ((D.str ("at" : Str)).key.isSome && (D.str ("left" : Str)).key.isSome)) = true) ∧ 3 ≤ 15) = True := eq_true (by decide)
  have c2 (x : D) : dput (dput (dput [] (D.str ("cells" : Str)) x) (D.str ("at" : Str)) (D.int 0)) (D.str ("left" : Str)) (D.int 0) = [(D.str ("cells" : Str), x), (D.str ("at" : Str), D.int 0), (D.str ("left" : Str), D.int 0)] := rfl
  simp_all?! only [↓u__law_pen, ↓d__law_pen, e, Pn.o, keysOk, merD, c1, c2]
theorem min_k (k n : Nat) : ∃ m : Nat, m ≤ k ∧ m ≤ n ∧ min2 (k : Nat) (n : Nat) = (m : Nat) := by
  unfold min2
  split
  · exact ⟨n, by omega, by omega, rfl⟩
  · exact ⟨k, by omega, by omega, rfl⟩
end Nv
-- S_lt1
namespace Nv
open PySem PySem.Spec PyProof.Rows L2
theorem ad_cL (u : Tx) (c : Nat) (h : u.length ≤ 1000) : gAdd (tD u) (cD c) = some (.dat (tD (u ++ [c]))) := by
  rw [ad_S, if_pos (by rw [sl_eq, List.length_singleton]; omega)]
theorem lt_comp (sg : Tx) (m k a : D) (o : O) (lg u : Tx) (lo : List Tx) (hu : u.length ≤ 1000) (hs : sg.length ≤ 4) (Γ0 : Ev) (e0 : Γ0 = [.dat (tD sg), .dat m, .own none o, .dat a, .dat k, .own none (.lst (lo.map tD)), .dat (tD u), .un]) :
    compL Γ0 (tName 7) yesT q__law_texts_1 (sg.map cD) [] Γ0 = some ((sg.map fun c => u ++ [c]).map tD, Γ0) := by
  subst e0
  rw [List.map_map]
  refine compL_all cD (tD ∘ fun c => u ++ [c]) (fun _ => True) (fun c _ => ?_) sg (fun _ _ => trivial) (by rw [sl_eq]; omega)
  have h := ad_cL u c hu
  refine ⟨_, rfl, [.dat (tD sg), .dat m, .own none o, .dat a, .dat k, .own none (.lst (lo.map tD)), .dat (tD u), .dat (cD c)], ?_, rfl⟩
  simp_all! only [↓q__law_texts_1, h]
  rfl
theorem lt_loop (sg : Tx) (m k a : D) (o : O) (hs : sg.length ≤ 4) : ∀ (us lo : List Tx), (∀ u ∈ us, u.length ≤ 1000) → lo.length + 4 * us.length ≤ 100000 →
    forL (tName 6) b__law_texts_1 (us.map tD) [.dat (tD sg), .dat m, .own none o, .dat a, .dat k, .own none (.lst (lo.map tD)), .un, .un] =
      .nx [.dat (tD sg), .dat m, .own none o, .dat a, .dat k, .own none (.lst ((lo ++ us.flatMap fun u => sg.map fun c => u ++ [c]).map tD)), .un, .un] := by
  intro us lo hu hl
  have q := forL_eq (g := tName 6) (f := b__law_texts_1) (fun lo : List Tx => [.dat (tD sg), .dat m, .own none o, .dat a, .dat k, .own none (.lst (lo.map tD)), .un, .un]) tD (fun lo u => lo ++ sg.map fun c => u ++ [c]) (fun r lo => (∀ u ∈ r, u.length ≤ 1000) ∧ lo.length + 4 * r.length ≤ 100000)
    (fun u r lo ⟨h1, h2⟩ => ?_) us lo ⟨hu, hl⟩
  · rw [q]
    congr 2
    have e : ∀ (us lo : List Tx), us.foldl (fun lo u => lo ++ sg.map fun c => u ++ [c]) lo = lo ++ us.flatMap fun u => sg.map fun c => u ++ [c] := by
      intro us
      induction us with
      | nil => intro lo; simp
      | cons a us ih => intro lo; rw [List.foldl_cons, ih, List.flatMap_cons, List.append_assoc]
    rw [e]
  · rw [List.length_cons] at h2
    have h := lt_comp sg m k a o [] u lo (h1 u List.mem_cons_self) hs _ rfl
    have e : (lo ++ sg.map fun c => u ++ [c]).map tD = lo.map tD ++ (sg.map fun c => u ++ [c]).map tD := by rw [List.map_append]
    obtain ⟨W, eW⟩ : ∃ W, W = (sg.map fun c => u ++ [c]) := ⟨_, rfl⟩
    have lW : W.length ≤ 4 := by rw [eW, List.length_map]; exact hs
    rw [← eW] at h e
    refine ⟨⟨[.dat (tD sg), .dat m, .own none o, .dat a, .dat k, .own none (.lst (lo.map tD)), .dat (tD u), .un], rfl, ?_⟩, fun v hv => h1 v (List.mem_cons_of_mem _ hv), ?_⟩
    · show b__law_texts_1 _ = .nx [.dat (tD sg), .dat m, .own none o, .dat a, .dat k, .own none (.lst ((lo ++ sg.map fun c => u ++ [c]).map tD)), .un, .un]
      rw [← eW, e]
      simp_all! only [↓b__law_texts_1, h]
    · rw [List.length_append, List.length_map]
      omega
end Nv
-- S_lt2
namespace Nv
open PySem PySem.Spec PyProof.Rows L2
structure LtI (sg : Tx) (k r : Nat) (F Lt : List Tx) : Prop where
  le : r ≤ k
  f : ∀ t ∈ F, t.length ≤ k ∧ ∀ c ∈ t, c ∈ sg
  l : ∀ t ∈ Lt, t.length + r ≤ k ∧ ∀ c ∈ t, c ∈ sg
  nl : Lt.length ≤ 4 ^ (k - r)
  nf : F.length ≤ 2 * 4 ^ (k - r)
theorem LtI.step {sg : Tx} {k r : Nat} {F Lt : List Tx} (h : LtI sg k (r + 1) F Lt) (hs : sg.length ≤ 4) : LtI sg k r (F ++ Lt.flatMap fun u => sg.map fun c => u ++ [c]) (Lt.flatMap fun u => sg.map fun c => u ++ [c]) := by
  have hle := h.le
  have hl : ∀ t ∈ (Lt.flatMap fun u => sg.map fun c => u ++ [c]), t.length + r ≤ k ∧ ∀ c ∈ t, c ∈ sg := fun t ht => by
    obtain ⟨u, hu, h2⟩ := List.mem_flatMap.mp ht
    obtain ⟨c, hc, rfl⟩ := List.mem_map.mp h2
    obtain ⟨g1, g2⟩ := h.l u hu
    refine ⟨by rw [List.length_append, List.length_singleton]; omega, fun d hd => ?_⟩
    rcases List.mem_append.mp hd with hd | hd
    · exact g2 d hd
    · rw [List.mem_singleton.mp hd]; exact hc
  have e : k - r = (k - (r + 1)) + 1 := by omega
  have n1 : (Lt.flatMap fun u => sg.map fun c => u ++ [c]).length ≤ 4 ^ (k - r) := by
    rw [List.length_flatMap]
    have e2 : (Lt.map fun u => (sg.map fun c => u ++ [c]).length) = Lt.map fun _ => sg.length := List.map_congr_left fun _ _ => List.length_map _
    rw [e2, List.map_const', List.sum_replicate_nat, e, Nat.pow_succ]
    exact Nat.mul_le_mul h.nl hs
  refine ⟨by omega, fun t ht => ?_, hl, n1, ?_⟩
  · rcases List.mem_append.mp ht with ht | ht
    · exact h.f t ht
    · obtain ⟨g1, g2⟩ := hl t ht
      exact ⟨by omega, g2⟩
  · rw [List.length_append]
    have h3 := h.nf
    have e3 : 4 ^ (k - r) = 4 ^ (k - (r + 1)) * 4 := by rw [e, Nat.pow_succ]
    omega
def ltE (sg : Tx) (m : D) (F : List Tx) (S3 : Slot) : Ev := [.dat (tD sg), .dat m, .own none (.lst (F.map tD)), S3, .un, .un, .un, .un]
theorem lt_turn (sg : Tx) (m : D) (k r a : Nat) (F Lt : List Tx) (S3 : Slot) (h3 : S3 = .own none (.lst (Lt.map tD)) ∨ S3 = .dat (.lst (Lt.map tD))) (h : LtI sg k (r + 1) F Lt) (hs : sg.length ≤ 4) (hk : k ≤ 4) :
    ∃ Γ1, tName 4 (.int (0 + (a : Nat))) (ltE sg m F S3) = some Γ1 ∧ b__law_texts_2 Γ1 = .nx (ltE sg m (F ++ Lt.flatMap fun u => sg.map fun c => u ++ [c]) (.dat (.lst ((Lt.flatMap fun u => sg.map fun c => u ++ [c]).map tD)))) := by
  have hle := h.le
  have p4 : 4 ^ (k - (r + 1)) ≤ 4 ^ 4 := Nat.pow_le_pow_right (by omega) (by omega)
  have n1 := h.nl
  have n2 := h.nf
  have hst := h.step hs
  have n3 := hst.nf
  have p5 : 4 ^ (k - r) ≤ 4 ^ 4 := Nat.pow_le_pow_right (by omega) (by omega)
  have q := lt_loop sg m (.int (a : Nat)) (.lst (Lt.map tD)) (.lst (F.map tD)) hs Lt [] (fun u hu => by have := (h.l u hu).1; omega) (by rw [List.length_nil]; omega)
  rw [List.nil_append, List.map_nil] at q
  obtain ⟨W, eW⟩ : ∃ W, W = Lt.flatMap fun u => sg.map fun c => u ++ [c] := ⟨_, rfl⟩
  rw [← eW] at q n3 ⊢
  have e : (F ++ W).map tD = F.map tD ++ W.map tD := by rw [List.map_append]
  rw [List.length_append] at n3
  refine ⟨_, rfl, ?_⟩
  unfold ltE
  rw [e]
  rcases h3 with rfl | rfl
  · simp_all! only [↓b__law_texts_2, q]
  · simp_all! only [↓b__law_texts_2, q]
end Nv
-- S_13b
namespace Nv
open PySem PySem.Spec PyProof.Rows L2
def levT (sg : Tx) : Nat → List Tx
  | 0 => [[]]
  | k + 1 => (levT sg k).flatMap fun u => sg.map fun c => u ++ [c]
def allT (sg : Tx) : Nat → List Tx
  | 0 => [[]]
  | k + 1 => allT sg k ++ levT sg (k + 1)
theorem law_texts_x (sg : Tx) (k : Nat) (hs : sg.length ≤ 4) (hk : k ≤ 4) : f__law_texts [.dat (tD sg), .dat (.int (k : Nat))] = .ok (.own (.lst ((allT sg k).map tD))) [.dat (tD sg), .dat (.int (k : Nat))] ∧ (∀ t ∈ allT sg k, t.length ≤ k ∧ ∀ c ∈ t, c ∈ sg) ∧ (allT sg k).length ≤ 600 := by
  obtain ⟨Γ', h1, F, Lt, S3, j, e, h3, hI, eF, eL, ej⟩ := forL_inv (g := tName 4) (f := b__law_texts_2) (fun i : Nat => .int (0 + (i : Nat)))
    (fun l Γ => ∃ F Lt S3 j, Γ = ltE sg (.int (k : Nat)) F S3 ∧ (S3 = .own none (.lst (Lt.map tD)) ∨ S3 = .dat (.lst (Lt.map tD))) ∧ LtI sg k l.length F Lt ∧ F = allT sg j ∧ Lt = levT sg j ∧ j + l.length = k)
    (fun x xs Γ ⟨F, Lt, S3, j, e, h3, hI, eF, eL, ej⟩ => by
      subst e
      rw [List.length_cons] at hI ej
      obtain ⟨Γ1, g1, g2⟩ := lt_turn sg (.int (k : Nat)) k xs.length x F Lt S3 h3 hI hs hk
      exact ⟨_, ⟨Γ1, g1, .inl g2⟩, _, _, _, j + 1, rfl, .inr rfl, hI.step hs, by rw [eF, eL]; rfl, by rw [eL]; rfl, by omega⟩) (List.range k) (ltE sg (.int (k : Nat)) [[]] (.own none (.lst (([[]] : List Tx).map tD)))) ⟨[[]], [[]], _, 0, rfl, .inl rfl, by
        rw [List.length_range]
        refine ⟨Nat.le_refl _, fun t ht => ?_, fun t ht => ?_, ?_, ?_⟩
        · rw [List.mem_singleton.mp ht]; exact ⟨Nat.zero_le _, fun c hc => nomatch hc⟩
        · rw [List.mem_singleton.mp ht]; exact ⟨by show 0 + k ≤ k; omega, fun c hc => nomatch hc⟩
        · rw [Nat.sub_self]; exact Nat.le_refl _
        · rw [Nat.sub_self]; show 1 ≤ 2; omega, rfl, rfl, by rw [List.length_range]; omega⟩
  subst e
  have ej : j = k := by simpa using ej
  subst ej
  have nf := hI.nf
  rw [← eF]
  refine ⟨?_, hI.f, ?_⟩
  · have q : forL (tName 4) b__law_texts_2 (rangeD 0 j) [.dat (tD sg), .dat (.int (j : Nat)), .own none (.lst [tD []]), .own none (.lst [tD []]), .un, .un, .un, .un] = .nx [.dat (tD sg), .dat (.int (j : Nat)), .own none (.lst (F.map tD)), S3, .un, .un, .un, .un] := h1
    rcases h3 with rfl | rfl
    · simp_all! only [↓u__law_texts, ↓d__law_texts, q]
    · simp_all! only [↓u__law_texts, ↓d__law_texts, q]
  · rw [List.length_nil, Nat.sub_zero] at nf
    have := Nat.pow_le_pow_right (show 0 < 4 by omega) hk
    omega
section
variable {sg : Tx}
theorem rg_flat (K : Nat) : ∀ (m a : Nat), (List.range' a m).flatMap (fun n => List.range' (n * K + 1) K) = List.range' (a * K + 1) (m * K)
  | 0, a => by rw [Nat.zero_mul]; rfl
  | m + 1, a => by
    have e1 : (m + 1) * K = K + m * K := by rw [Nat.succ_mul, Nat.add_comm]
    have e2 : (a + 1) * K + 1 = a * K + 1 + K := by rw [Nat.add_mul, Nat.one_mul]; omega
    rw [List.range'_succ, List.flatMap_cons, rg_flat K m (a + 1), e1, e2, List.range'_append_1]
theorem rk_ext (nd : sg.Nodup) (u : Tx) : (sg.map fun c => u ++ [c]).map (rkT sg) = List.range' (rkT sg u * sg.length + 1) sg.length := by
  rw [List.map_map]
  refine List.ext_getElem (by simp) fun i h1 h2 => ?_
  have hi : i < sg.length := by simpa using h1
  rw [List.getElem_map, List.getElem_range']
  show rkT sg (u ++ [sg[i]'hi]) = _
  rw [num_snoc, List.Nodup.idxOf_getElem nd]
  omega
/-- how many shorter texts there are -/
def aT (K : Nat) : Nat → Nat
  | 0 => 0
  | k + 1 => aT K k * K + 1
theorem aT_add (K : Nat) : ∀ k : Nat, aT K k + K ^ k = aT K (k + 1)
  | 0 => by show 0 + 1 = 0 * K + 1; omega
  | k + 1 => by
    have := aT_add K k
    show aT K k * K + 1 + K ^ (k + 1) = aT K (k + 1) * K + 1
    rw [← this, Nat.add_mul, Nat.pow_succ]
    omega
theorem lev_rk (nd : sg.Nodup) : ∀ k : Nat, (levT sg k).map (rkT sg) = List.range' (aT sg.length k) (sg.length ^ k)
  | 0 => rfl
  | k + 1 => by
    have ih := lev_rk nd k
    show ((levT sg k).flatMap fun u => sg.map fun c => u ++ [c]).map (rkT sg) = _
    rw [List.map_flatMap]
    have e : ((levT sg k).flatMap fun u => (sg.map fun c => u ++ [c]).map (rkT sg)) = ((levT sg k).map (rkT sg)).flatMap fun n => List.range' (n * sg.length + 1) sg.length := by
      rw [List.flatMap_map]
      exact congrArg (fun g => (levT sg k).flatMap g) (funext fun u => rk_ext nd u)
    rw [e, ih, rg_flat, Nat.pow_succ]
    rfl
theorem all_rk (nd : sg.Nodup) : ∀ k : Nat, (allT sg k).map (rkT sg) = List.range' 0 (aT sg.length (k + 1))
  | 0 => by show [0] = List.range' 0 (0 * sg.length + 1); rw [Nat.zero_mul]; rfl
  | k + 1 => by
    show (allT sg k ++ levT sg (k + 1)).map (rkT sg) = _
    rw [List.map_append, all_rk nd k, lev_rk nd, ← aT_add sg.length (k + 1), ← List.range'_append_1, Nat.zero_add]
theorem all_st (nd : sg.Nodup) (k : Nat) : (allT sg k).Pairwise fun x y => rkT sg x < rkT sg y := by
  have : ((allT sg k).map (rkT sg)).Pairwise (· < ·) := by rw [all_rk nd]; exact List.pairwise_lt_range'
  exact List.pairwise_map.mp this
theorem all_mem : ∀ (k : Nat) (u : Tx), u.length ≤ k → (∀ c ∈ u, c ∈ sg) → u ∈ allT sg k := by
  have lm : ∀ (k : Nat) (u : Tx), u.length = k → (∀ c ∈ u, c ∈ sg) → u ∈ levT sg k := by
    intro k
    induction k with
    | zero => intro u hu _; rw [List.length_eq_zero_iff.mp hu]; exact List.mem_singleton.mpr rfl
    | succ k ih =>
      intro u hu hs
      rcases List.eq_nil_or_concat u with rfl | ⟨v, c, rfl⟩
      · cases hu
      · rw [List.concat_eq_append] at hu hs ⊢
        exact List.mem_flatMap.mpr ⟨v, ih v (by simpa using hu) (fun d hd => hs d (List.mem_append_left _ hd)), List.mem_map.mpr ⟨c, hs c (by simp), rfl⟩⟩
  intro k
  induction k with
  | zero => intro u hu hs; exact lm 0 u (by omega) hs
  | succ k ih =>
    intro u hu hs
    rcases Nat.lt_or_ge k u.length with z | z
    · exact List.mem_append_right _ (lm (k + 1) u (by omega) hs)
    · exact List.mem_append_left _ (ih u z hs)
theorem aT_le (hp : 0 < sg.length) {i j : Nat} (h : i ≤ j) : aT sg.length i ≤ aT sg.length j := by
  induction j with
  | zero => rw [Nat.le_zero.mp h]; exact Nat.le_refl _
  | succ j ih =>
    rcases Nat.lt_or_ge i (j + 1) with z | z
    · have := ih (by omega)
      have := Nat.le_mul_of_pos_right (aT sg.length j) hp
      show _ ≤ aT sg.length j * sg.length + 1
      omega
    · rw [show i = j + 1 by omega]; exact Nat.le_refl _
theorem rk_ge : ∀ (k : Nat) (u : Tx), u.length = k → aT sg.length k ≤ rkT sg u := by
  intro k
  induction k with
  | zero => intro u _; exact Nat.zero_le _
  | succ k ih =>
    intro u hu
    rcases List.eq_nil_or_concat u with rfl | ⟨v, c, rfl⟩
    · cases hu
    · rw [List.concat_eq_append] at hu ⊢
      rw [num_snoc]
      have := Nat.mul_le_mul_right sg.length (ih v (by simpa using hu))
      show aT sg.length k * sg.length + 1 ≤ _
      omega
/-- among all short texts the told one is the first that is due -/
theorem first_due {W : Tx → Bool} (nd : sg.Nodup) (hp : 0 < sg.length) (k : Nat) (o : Option Tx)
    (h : match o with
      | some t => (∀ c ∈ t, c ∈ sg) ∧ W t = true ∧ ∀ u : Tx, (∀ c ∈ u, c ∈ sg) → W u = true → rkT sg t ≤ rkT sg u
      | none => ∀ u : Tx, (∀ c ∈ u, c ∈ sg) → W u = false)
    (hm : ∀ t ∈ allT sg k, t.length ≤ k ∧ ∀ c ∈ t, c ∈ sg) :
    match (allT sg k).find? W with
      | some t => o = some t
      | none => o = none ∨ ∃ t, o = some t ∧ k < t.length := by
  cases e : (allT sg k).find? W with
  | none =>
    have h0 := List.find?_eq_none.mp e
    cases o with
    | none => exact .inl rfl
    | some t =>
      refine .inr ⟨t, rfl, ?_⟩
      rcases Nat.lt_or_ge k t.length with z | z
      · exact z
      · exact absurd h.2.1 (h0 t (all_mem k t z h.1))
  | some t0 =>
    dsimp only
    have w0 := List.find?_some e
    have m0 := List.mem_of_find?_eq_some e
    obtain ⟨l0, s0⟩ := hm t0 m0
    cases o with
    | none =>
      have := h t0 s0
      rw [w0] at this
      cases this
    | some t =>
      obtain ⟨h1, h2, h3⟩ := h
      have le := h3 t0 s0 w0
      have lt : t.length ≤ k := by
        rcases Nat.lt_or_ge k t.length with z | z
        · exfalso
          have g1 := rk_ge (sg := sg) t.length t rfl
          have g2 := aT_le hp (show k + 1 ≤ t.length by omega)
          have g3 : rkT sg t0 < aT sg.length (k + 1) := by
            have : rkT sg t0 ∈ (allT sg k).map (rkT sg) := List.mem_map_of_mem m0
            rw [all_rk nd] at this
            have := (List.mem_range'_1.mp this).2
            omega
          omega
        · exact z
      obtain ⟨_, as, bs, e1, e2⟩ := List.find?_eq_some_iff_append.mp e
      have mt := all_mem k t lt h1
      have st := all_st nd k
      rw [e1] at mt st
      rcases List.mem_append.mp mt with mt | mt
      · have := e2 t mt
        rw [h2] at this
        cases this
      · rcases List.mem_cons.mp mt with rfl | mt
        · rfl
        · have := List.rel_of_pairwise_cons (List.pairwise_append.mp st).2.1 mt
          omega
end
end Nv
-- S_fold
-- classes: Machine
namespace Nv
open PySem PySem.Spec PyProof.Rows L2
theorem flatN_le {α β : Type} (f : α → List β) (m : Nat) : ∀ l : List α, (∀ x ∈ l, (f x).length ≤ m) → (l.flatMap f).length ≤ l.length * m
  | [], _ => by simp
  | x :: l, h => by
    rw [List.flatMap_cons, List.length_append, List.length_cons, Nat.add_mul, Nat.one_mul]
    have h1 := h x List.mem_cons_self
    have h2 := flatN_le f m l fun y hy => h y (List.mem_cons_of_mem _ hy)
    omega
section
variable {sg : Tx} {rows : List (List Way)} {ends : List (List Tx)} {words : List Tx}
theorem all_in (w : InW words rows ends) : ∀ k ∈ allL rows ends, k ∈ words := by
  intro k hk
  unfold allL givenK at hk
  rcases List.mem_append.mp hk with hk | hk
  · obtain ⟨r, hr, hk⟩ := List.mem_flatMap.mp hk
    obtain ⟨y, hy, hk⟩ := List.mem_flatMap.mp hk
    exact w.way r hr y hy k (asc_mem.mp hk)
  · obtain ⟨e, he, hk⟩ := List.mem_flatMap.mp hk
    exact w.en e he k (asc_mem.mp hk)
theorem keys_whole (h : MtOk sg rows ends) (w : InW words rows ends) (hw : words.length ≤ 12) : KeysOk rows ends := by
  have hn := h.n
  have hs := h.s
  have he := h.en
  refine ⟨fun r hr y hy => by have := h.kn r hr y hy; omega, fun e he => by have := h.el e he; omega, fun r hr => by rw [h.row r hr]; omega, by omega, by omega, ?_, Nat.le_trans (ded_le_w (all_in w)) hw⟩
  unfold allL givenK
  rw [List.length_append]
  have q1 := flatN_le (fun r : List Way => r.flatMap fun y => asc y.2) 32 rows fun r hr => by
    have q := flatN_le (fun y : Way => asc y.2) 8 r fun y hy => Nat.le_trans (asc_len _) (h.kn r hr y hy)
    have := h.row r hr
    have : r.length * 8 ≤ 4 * 8 := Nat.mul_le_mul_right 8 (by omega)
    omega
  have q2 := flatN_le asc 8 ends fun e he => Nat.le_trans (asc_len _) (h.el e he)
  have : rows.length * 32 ≤ 16 * 32 := Nat.mul_le_mul_right 32 hn
  have : ends.length * 8 ≤ 16 * 8 := Nat.mul_le_mul_right 8 (by omega)
  omega
theorem made_mach (bk be c : Bool) (h : MtOk sg rows ends) (w : InW words rows ends) (hw : words.length ≤ 12) (Γ : Ev) : makeR ("Machine" : Str) f_Machine_init_v1 [.dat (tD sg), .dat (rwsI bk rows), .dat (ensI c be ends)] Γ = .ok (.own (mcO sg rows ends)) Γ :=
  makeR_mk (ds := [tD sg, rwsI bk rows, ensI c be ends]) rfl (init2 bk be c sg rows ends (keys_whole h w hw) h.go)
end
section
variable {inner sg : Tx} {rows : List (List Way)} {ends : List (List Tx)} {words : List Tx}
end
end Nv
-- S_dict
-- classes: Table
namespace Nv
open PySem PySem.Spec PyProof.Rows L2
section
variable {ν : Type} {vd : ν → D} {l : List (Tx × ν)} {k : Tx} {v : ν}
theorem tx_eq (a b : Tx) : (tD a).eq (tD b) = decide (a = b) := eq_S
end
section
variable {κ ν : Type} [DecidableEq κ] {l : List (κ × ν)} {k : κ} {v : ν}
theorem alook_mem (h : alook l k = some v) : (k, v) ∈ l := by
  induction l with
  | nil => cases h
  | cons p l ih =>
    rw [alook] at h
    split at h
    · rename_i e; cases h; subst e; exact List.mem_cons_self
    · exact List.mem_cons_of_mem _ (ih h)
theorem alook_some (h : k ∈ l.map (·.1)) : ∃ v, alook l k = some v := by
  induction l with
  | nil => cases h
  | cons p l ih =>
    rw [alook]
    by_cases e : p.1 = k
    · exact ⟨_, if_pos e⟩
    · rw [if_neg e]
      rw [List.map_cons, List.mem_cons] at h
      rcases h with h | h
      · exact absurd h.symm e
      · exact ih h
end
end Nv
-- S_key
-- classes: Table
namespace Nv
open PySem PySem.Spec PyProof.Rows L2
section
variable {α : Type} {f : α → D} {n : Nat} {l : List α}
end
def alnum : Tx := letters ++ [48, 49, 50, 51, 52, 53, 54, 55, 56, 57]
def keyB (w : Tx) : Bool := decide (1 ≤ w.length) && decide (w.length ≤ 12) && w.all fun c => decide (c ∈ alnum)
end Nv
-- S_k40a
namespace Nv
open PySem PySem.Spec PyProof.Rows L2
structure Rw where
  u : Tx
  v : Tx
  w : Int
inductive Col where
  | sg (c : Nat) | ix (k : Nat)
structure Sp1 where
  col : Col
  to : Pl
  w : Int
def hit (x : Tx) (i : Nat) (u : Tx) : Prop := (x.drop i).take u.length = u
instance {x : Tx} {i : Nat} {u : Tx} : Decidable (hit x i u) := by unfold hit; infer_instance
def rowAt (x y : Tx) (i j : Nat) (p : Rw × Nat) : List Sp1 := if hit x i p.1.u ∧ hit y j p.1.v then [⟨.ix p.2, (i + p.1.u.length, j + p.1.v.length), p.1.w⟩] else []
def rowsF (rows : List Rw) (x y : Tx) (i j : Nat) : List Sp1 := rows.zipIdx.flatMap (rowAt x y i j)
def diag (x y : Tx) (i j : Nat) : List Sp1 := if i < x.length ∧ x[i]? = y[j]? then [⟨.sg (x.getD i 0), (i + 1, j + 1), 0⟩] else []
def stepsF (rows : List Rw) (x y : Tx) (i j : Nat) : List Sp1 := diag x y i j ++ rowsF rows x y i j
end Nv
-- S_k40b
namespace Nv
open PySem PySem.Spec PyProof.Rows L2
end Nv
-- S_k40c
namespace Nv
open PySem PySem.Spec PyProof.Rows L2
abbrev Wt := List (Pl × Int)
abbrev Lk := List (Pl × (Pl × Col))
def better (W : Wt) (q : Pl) (n : Int) : Bool := match alook W q with
  | none => true
  | some o => decide (n < o)
def relax (h : Int) (p : Pl) (st : Wt × Lk) (s : Sp1) : Wt × Lk := if better st.1 s.to (h + s.w) = true then (aput st.1 s.to (h + s.w), aput st.2 s.to (p, s.col)) else st
def place (rows : List Rw) (x y : Tx) (st : Wt × Lk) (p : Pl) : Wt × Lk := match alook st.1 p with
  | none => st
  | some h => (stepsF rows x y p.1 p.2).foldl (relax h p) st
end Nv
-- S_k40d
namespace Nv
open PySem PySem.Spec PyProof.Rows L2
end Nv
-- S_tab
-- classes: Table
namespace Nv
open PySem PySem.Spec PyProof.Rows L2
abbrev Nm := List (Tx × Tx)
def tbl (named : Nm) : Nm := (sortT (named.map (·.1))).map fun k => (k, (alook named k).getD [])
structure NmOk (sg : Tx) (named : Nm) : Prop where
  nd : (named.map (·.1)).Nodup
  n : named.length ≤ 24
  key : ∀ p ∈ named, keyB p.1 = true
  len : ∀ p ∈ named, p.2.length ≤ 30
  sg : ∀ p ∈ named, ∀ c ∈ p.2, c ∈ sg
theorem NmOk.get {sg : Tx} {named : Nm} (h : NmOk sg named) {k : Tx} (hk : k ∈ sortT (named.map (·.1))) : ∃ v, alook named k = some v ∧ keyB k = true ∧ k.length ≤ 12 ∧ v.length ≤ 30 ∧ ∀ c ∈ v, c ∈ sg := by
  have hk : k ∈ named.map (·.1) := (sortT_perm _).mem_iff.mp hk
  obtain ⟨v, e⟩ := alook_some hk
  have m := alook_mem e
  have kb := h.key _ m
  refine ⟨v, e, kb, ?_, h.len _ m, h.sg _ m⟩
  unfold keyB at kb
  rw [Bool.and_eq_true, Bool.and_eq_true] at kb
  exact of_decide_eq_true kb.1.2
end Nv
-- S_k40e
namespace Nv
open PySem PySem.Spec PyProof.Rows L2
/-- the way back from p is right; all it leads over is done -/
structure WayP (rows : List Rw) (x y : Tx) (st : Wt × Lk) (p : Pl) (v : Int) (t : Nat) (q : Pl) (s : Sp1) (vq : Int) : Prop where
  lk : alook st.2 p = some (q, s.col)
  mem : s ∈ stepsF rows x y q.1 q.2
  to : s.to = p
  wq : alook st.1 q = some vq
  v : v = vq + s.w
  le : q.1 + q.2 ≤ t
structure Inv1 (rows : List Rw) (x y : Tx) (st : Wt × Lk) (t : Nat) : Prop where
  way : ∀ p v, alook st.1 p = some v → (p = (0, 0) ∧ v = 0) ∨ ∃ q s vq, WayP rows x y st p v t q s vq
  zero : alook st.1 (0, 0) = some 0
  nn : ∀ p v, alook st.1 p = some v → 0 ≤ v
section
variable {rows : List Rw} {x y : Tx}
theorem Inv1.mono {st : Wt × Lk} {t t' : Nat} (I : Inv1 rows x y st t) (h : t ≤ t') : Inv1 rows x y st t' :=
  ⟨fun p v hp => (I.way p v hp).imp id fun ⟨q, s, vq, W⟩ => ⟨q, s, vq, W.lk, W.mem, W.to, W.wq, W.v, Nat.le_trans W.le h⟩, I.zero, I.nn⟩
end
end Nv
-- S_k40f
namespace Nv
open PySem PySem.Spec PyProof.Rows L2
end Nv
-- S_k40g
namespace Nv
open PySem PySem.Spec PyProof.Rows L2
end Nv
-- S_k40h
namespace Nv
open PySem PySem.Spec PyProof.Rows L2
end Nv
-- S_k40i
namespace Nv
open PySem PySem.Spec PyProof.Rows L2
end Nv
-- S_k40j
namespace Nv
open PySem PySem.Spec PyProof.Rows L2
end Nv
-- S_k40k
namespace Nv
open PySem PySem.Spec PyProof.Rows L2
end Nv
-- S_k40l
namespace Nv
open PySem PySem.Spec PyProof.Rows L2
end Nv
-- S_k40m
namespace Nv
open PySem PySem.Spec PyProof.Rows L2
end Nv
-- S_k40n
namespace Nv
open PySem PySem.Spec PyProof.Rows L2
end Nv
-- S_k40o
namespace Nv
open PySem PySem.Spec PyProof.Rows L2
end Nv
-- S_k40p
namespace Nv
open PySem PySem.Spec PyProof.Rows L2
end Nv
-- S_k40q
namespace Nv
open PySem PySem.Spec PyProof.Rows L2
end Nv
-- S_w
namespace Nv
open PySem PySem.Spec PyProof.Rows L2
/-- columns tell two texts at a weight -/
inductive Tl (rows : List Rw) : Tx → Tx → Int → Prop where
  | nil : Tl rows [] [] 0
  | sg (c : Nat) {x y : Tx} {v : Int} : Tl rows x y v → Tl rows (c :: x) (c :: y) v
  | row (r : Rw) {x y : Tx} {v : Int} : r ∈ rows → Tl rows x y v → Tl rows (r.u ++ x) (r.v ++ y) (v + r.w)
section
variable {rows : List Rw} {x y : Tx}
end
theorem Tl.sub {rows rows' : List Rw} (h : ∀ r ∈ rows, r ∈ rows') {x y : Tx} {v : Int} (t : Tl rows x y v) : Tl rows' x y v := by
  induction t with
  | nil => exact .nil
  | sg c _ ih => exact .sg c ih
  | row r hr _ ih => exact .row r (h r hr) ih
def swR (r : Rw) : Rw := ⟨r.v, r.u, r.w⟩
theorem Tl.swap {rows : List Rw} {x y : Tx} {v : Int} (t : Tl rows x y v) : Tl (rows.map swR) y x v := by
  induction t with
  | nil => exact .nil
  | sg c _ ih => exact .sg c ih
  | row r hr _ ih => exact .row (swR r) (List.mem_map_of_mem hr) ih
theorem Tl.app {rows : List Rw} {x y x' y' : Tx} {v v' : Int} (t : Tl rows x y v) (t' : Tl rows x' y' v') : Tl rows (x ++ x') (y ++ y') (v + v') := by
  induction t with
  | nil => rw [Int.zero_add]; exact t'
  | sg c _ ih => exact .sg c ih
  | row r hr _ ih => rw [List.append_assoc, List.append_assoc, show ∀ a b c : Int, a + b + c = a + c + b by intros; omega]; exact .row r hr ih
theorem Tl.same {rows : List Rw} : ∀ x : Tx, Tl rows x x 0
  | [] => .nil
  | c :: x => .sg c (Tl.same x)
end Nv
-- S_near
-- classes: Table Edits
namespace Nv
open PySem PySem.Spec PyProof.Rows L2
section
variable {α : Type} {f : α → D} {n : Nat} {a b : List α}
end
end Nv
-- S_near2
-- classes: Table Edits
namespace Nv
open PySem PySem.Spec PyProof.Rows L2
end Nv
-- S_near3
-- classes: Table Edits
namespace Nv
open PySem PySem.Spec PyProof.Rows L2
open PySem.W (dataLe alike sort_maps)
end Nv
-- S_near4
-- classes: Table Edits
-- classes: Table Edits
namespace Nv
open PySem PySem.Spec PyProof.Rows L2
open PySem.W (dataLe alike alikeAll sort_maps keyToks)
end Nv
-- S_named
-- classes: Table Edits
namespace Nv
open PySem PySem.Spec PyProof.Rows L2
end Nv
-- S_named2
-- classes: Table Edits
namespace Nv
open PySem PySem.Spec PyProof.Rows L2
end Nv
-- S_rows
namespace Nv
open PySem PySem.Spec PyProof.Rows L2
end Nv
-- S_45a
-- classes: Machine Rule
namespace Nv
open PySem PySem.Spec PyProof.Rows L2
section
variable {sg : Tx} {rows : List (List Way)} {ends : List (List Tx)} {words : List Tx}
end
section
variable {sg : Tx} {rows : List (List Way)} {ends : List (List Tx)}
theorem mc_signs : gFld ("signs" : Str) [("Machine" : Str), ("Rule" : Str), ("Edits" : Str), ("Table" : Str)] (mcD sg rows ends) = some (.dat (tD sg)) := rfl
end
/-- a machine's tables -/
abbrev Mt := List (List Way) × List (List Tx)
structure MOk (sg : Tx) (words : List Tx) (m : Mt) : Prop where
  h : MtOk sg m.1 m.2
  w : InW words m.1 m.2
  n : words.length ≤ 12
theorem in_tt (k : Tx) (l : List Tx) : gIn (tD k) (.tup (l.map tD)) = some (.dat (.bl (decide (k ∈ l)))) := by
  have f : ((tD k).flat && (l.map tD).all D.flat) = true := by
    rw [List.all_map, Bool.and_eq_true]
    exact ⟨rfl, List.all_eq_true.mpr fun _ _ => rfl⟩
  have e : ((l.map tD).any fun z => z.eq (tD k)) = decide (k ∈ l) := by
    rw [List.any_map, Bool.eq_iff_iff, List.any_eq_true, decide_eq_true_eq]
    exact ⟨fun ⟨x, hx, h⟩ => by
      have h : (tD x).eq (tD k) = true := h
      rw [tx_eq, decide_eq_true_eq] at h
      rw [← h]; exact hx, fun h => ⟨k, h, by show (tD k).eq (tD k) = true; rw [tx_eq]; simp⟩⟩
  show (if ((tD k).flat && (l.map tD).all D.flat) = true then some ((l.map tD).any fun z => z.eq (tD k)) else none).map (fun k => AV.dat (D.bl k)) = _
  rw [if_pos f, e]
  rfl
end Nv
-- S_45b
-- classes: Table Edits
-- n64
namespace Nv
open PySem PySem.Spec PyProof.Rows L2
section
variable {sg : Tx} {words : List Tx} {L R : Mt} {named : Nm} {rows : List Rw}
end
section
variable {ν : Type} {vd : ν → D} {l : List ((Tx × Tx) × ν)} {p : Tx × Tx} {v : ν}
end
section
variable {sg : Tx} {words : List Tx} {L R : Mt} {named : Nm} {rows : List Rw}
end
end Nv
-- S_fold2
-- classes: Machine
namespace Nv
open PySem PySem.Spec PyProof.Rows L2
section
variable {inner sg : Tx} {rows : List (List Way)} {ends : List (List Tx)} {words : List Tx}
end
end Nv
-- S_k9a
-- classes: Machine
namespace Nv
open PySem PySem.Spec PyProof.Rows L2
theorem gNe_S0 {a : Tx} : gNe (tD a) (tD a) = some (.dat (.bl false)) := by rw [gNe_S]; simp
end Nv
-- S_45c
-- classes: Table Edits
-- n64
namespace Nv
open PySem PySem.Spec PyProof.Rows L2
section
variable {sg : Tx} {words : List Tx} {L R : Mt} {named : Nm} {rows : List Rw}
end
end Nv
-- S_45d
-- classes: Table Edits
-- n64
namespace Nv
open PySem PySem.Spec PyProof.Rows L2
def tabD (m : Mt) : D := .tup [rwsI false m.1, ensI false false m.2]
section
variable {sg : Tx} {words : List Tx} {L R : Mt} {named : Nm} {rows : List Rw}
end
end Nv
-- S_45e
-- classes: Table Edits Machine Rule
-- n64
namespace Nv
open PySem PySem.Spec PyProof.Rows L2
/-- of bounded depth -/
def Sh (n : Nat) (d : D) : Prop := ∃ m, d.eqd = some m ∧ m ≤ n
theorem sh_all {α : Type} {f : α → D} {n : Nat} (h : ∀ x, Sh n (f x)) : ∀ l : List α, ∃ m, D.eqds (l.map f) = some m ∧ m ≤ n
  | [] => ⟨0, rfl, Nat.zero_le _⟩
  | x :: l => by
    obtain ⟨a, ha, la⟩ := h x
    obtain ⟨b, hb, lb⟩ := sh_all h l
    refine ⟨max a b, ?_, by omega⟩
    rw [List.map_cons]
    unfold D.eqds
    rw [ha, hb]
theorem sh_lst {α : Type} {f : α → D} {n : Nat} (h : ∀ x, Sh n (f x)) (l : List α) : Sh (n + 1) (.lst (l.map f)) := by
  obtain ⟨m, e, hm⟩ := sh_all h l
  refine ⟨m + 1, ?_, by omega⟩
  unfold D.eqd
  rw [e]; rfl
theorem sh_t (t : Tx) : Sh 0 (tD t) := ⟨0, rfl, Nat.le_refl _⟩
theorem Sh.mono {d : D} {n m : Nat} (h : Sh n d) (l : n ≤ m) : Sh m d := by
  obtain ⟨x, e, hx⟩ := h
  exact ⟨x, e, by omega⟩
theorem Sh.eqs {d : D} {n : Nat} (h : Sh n d) (hn : n ≤ 60) : d.eqs = true := by
  obtain ⟨x, e, hx⟩ := h
  unfold D.eqs
  rw [e]
  exact decide_eq_true (by omega)
theorem tb_ok {sg : Tx} {words : List Tx} {most : Nat} {rows : List (List Way)} {ends : List (List Tx)} (h : TbOk sg words most rows ends) (hs : sg.length ≤ 4) (hw : words.length ≤ 12) (hm : most ≤ 16) : MOk sg words (rows, ends) :=
  ⟨⟨h.go, h.row, h.en, h.n0, by have := h.n; show rows.length ≤ 16; omega, hs, fun r hr w hw => by have := (h.key r hr w hw).n; omega, fun e he => by have := (h.eks e he).n; omega⟩, ⟨fun r hr w hw k hk => (h.key r hr w hw).sub k hk, fun e he k hk => (h.eks e he).sub k hk⟩, hw⟩
theorem made_m {sg : Tx} {words : List Tx} {m : Mt} (h : MOk sg words m) (Γ : Ev) : makeR ("Machine" : Str) f_Machine_init_v1 [.dat (tD sg), .dat (rwsI false m.1), .dat (ensI false false m.2)] Γ = .ok (.own (mcO sg m.1 m.2)) Γ := made_mach false false false h.h h.w h.n Γ
end Nv
-- S_13c
-- classes: Machine
namespace Nv
open PySem PySem.Spec PyProof.Rows L2
def hkK : Option Tx → List Tx → Bool
  | some k, l => decide (k ∈ l)
  | none, l => decide (0 < l.length)
def kyD : Option Tx → D
  | some k => tD k
  | none => .non
def oTD : Option Tx → D
  | some t => tD t
  | none => .non
def ndD (p : Nd) : D := .tup [.int (p.1 : Nat), .bl p.2]
theorem in_l13 (x : Tx) (l : List Tx) : gIn (tD x) (.lst (l.map tD)) = some (.dat (.bl (decide (x ∈ l)))) := by
  unfold gIn inD
  dsimp only
  have e1 : (tD x).eqs = true := rfl
  have e2 : (D.lst (l.map tD)).eqs = true := Sh.eqs (n := 1) (sh_lst sh_t l) (by decide)
  rw [e1, e2, if_pos (by rfl), List.any_map]
  have e : l.any ((fun z => z.eq (tD x)) ∘ tD) = decide (x ∈ l) := by
    rw [Bool.eq_iff_iff, List.any_eq_true, decide_eq_true_eq]
    constructor
    · rintro ⟨y, hy, h⟩
      have h2 : (tD y).eq (tD x) = true := h
      rw [eq_S, decide_eq_true_eq] at h2
      subst h2; exact hy
    · intro h
      exact ⟨x, h, by show (tD x).eq (tD x) = true; rw [eq_S]; simp⟩
  rw [e]
  rfl
theorem has_ok (κ : Option Tx) (l : List Tx) : f__law_has [.dat (.lst (l.map tD)), .dat (kyD κ)] = .ok (.dat (.bl (hkK κ l))) [.dat (.lst (l.map tD)), .dat (kyD κ)] := by
  cases κ with
  | none =>
    by_cases h : 0 < l.length
    · have e : hkK none l = true := by unfold hkK; exact decide_eq_true h
      rw [e]
      unfold kyD
      simp_all! only [↓turnF_ap, kF1_ap, ↓turnC_ap, ↓kC1_ap, ↓kC2_ap, ↓kC3_ap, ↓turnN_ap, ↓kN1_ap, ↓kN2_ap, ↓kN3_ap, ↓bodyN_nil, ↓bodyN_cons, ↓kBN_ap, ↓kBC_ap, ↓bodyD_ap, ↓kBD1_ap, ↓kBD2_ap, goes_nx, goes_ct, tc_if, tn_if, fc_Machine_signs, fp_Machine_signs, fg_Machine_signs_0, fg_Machine_signs_1, fg_Machine_signs_2, fg_Machine_signs_3, fc_Machine_rows, fp_Machine_rows, fg_Machine_rows_1, fg_Machine_rows_2, fg_Machine_rows_3, fc_Machine_ends, fp_Machine_ends, fg_Machine_ends_2, fg_Machine_ends_3, fc_Machine_all_keys, fp_Machine_all_keys, fg_Machine_all_keys_3, fm_Machine_after, fm_Machine_far_keys, fm_Machine_keys_of, fm_Machine_read, ↓u__law_has, ↓d__law_has, h]
    · have e : hkK none l = false := by unfold hkK; exact decide_eq_false h
      rw [e]
      unfold kyD
      simp_all! only [↓turnF_ap, kF1_ap, ↓turnC_ap, ↓kC1_ap, ↓kC2_ap, ↓kC3_ap, ↓turnN_ap, ↓kN1_ap, ↓kN2_ap, ↓kN3_ap, ↓bodyN_nil, ↓bodyN_cons, ↓kBN_ap, ↓kBC_ap, ↓bodyD_ap, ↓kBD1_ap, ↓kBD2_ap, goes_nx, goes_ct, tc_if, tn_if, fc_Machine_signs, fp_Machine_signs, fg_Machine_signs_0, fg_Machine_signs_1, fg_Machine_signs_2, fg_Machine_signs_3, fc_Machine_rows, fp_Machine_rows, fg_Machine_rows_1, fg_Machine_rows_2, fg_Machine_rows_3, fc_Machine_ends, fp_Machine_ends, fg_Machine_ends_2, fg_Machine_ends_3, fc_Machine_all_keys, fp_Machine_all_keys, fg_Machine_all_keys_3, fm_Machine_after, fm_Machine_far_keys, fm_Machine_keys_of, fm_Machine_read, ↓u__law_has, ↓d__law_has, h]
  | some k =>
    have q := in_l13 k l
    have e : hkK (some k) l = decide (k ∈ l) := rfl
    rw [e]
    unfold kyD
    simp_all! only [↓turnF_ap, kF1_ap, ↓turnC_ap, ↓kC1_ap, ↓kC2_ap, ↓kC3_ap, ↓turnN_ap, ↓kN1_ap, ↓kN2_ap, ↓kN3_ap, ↓bodyN_nil, ↓bodyN_cons, ↓kBN_ap, ↓kBC_ap, ↓bodyD_ap, ↓kBD1_ap, ↓kBD2_ap, goes_nx, goes_ct, tc_if, tn_if, fc_Machine_signs, fp_Machine_signs, fg_Machine_signs_0, fg_Machine_signs_1, fg_Machine_signs_2, fg_Machine_signs_3, fc_Machine_rows, fp_Machine_rows, fg_Machine_rows_1, fg_Machine_rows_2, fg_Machine_rows_3, fc_Machine_ends, fp_Machine_ends, fg_Machine_ends_2, fg_Machine_ends_3, fc_Machine_all_keys, fp_Machine_all_keys, fg_Machine_all_keys_3, fm_Machine_after, fm_Machine_far_keys, fm_Machine_keys_of, fm_Machine_read, ↓u__law_has, ↓d__law_has, q]
theorem nd_eq (p q : Nd) : (ndD p).eq (ndD q) = decide (p = q) := by
  unfold ndD
  rw [eq_tup, eqa_cons, eqa_cons, eqa_nil, eq_int, Bool.eq_iff_iff]
  simp only [Bool.and_eq_true, decide_eq_true_eq, Bool.and_true, Prod.ext_iff]
  have e : (D.bl p.2).eq (D.bl q.2) = decide (p.2 = q.2) := by cases p.2 <;> cases q.2 <;> rfl
  rw [e, decide_eq_true_eq]
  constructor <;> (rintro ⟨a, b⟩; exact ⟨by omega, b⟩)
theorem nd_eqs (p : Nd) : (ndD p).eqs = true := rfl
theorem nds_eqs (l : List Nd) : (D.lst (l.map ndD)).eqs = true := by
  unfold D.eqs D.eqd
  rw [eqds_map (n := 1) (fun _ => rfl)]
  cases l <;> rfl
theorem in_nds (x : Nd) (l : List Nd) : gNin (ndD x) (.lst (l.map ndD)) = some (.dat (.bl (!decide (x ∈ l)))) := by
  unfold gNin inD
  dsimp only
  rw [nds_eqs, nd_eqs, if_pos (by rfl), List.any_map]
  have e : l.any ((fun z => z.eq (ndD x)) ∘ ndD) = decide (x ∈ l) := by
    rw [Bool.eq_iff_iff, List.any_eq_true, decide_eq_true_eq]
    constructor
    · rintro ⟨y, hy, h⟩
      have h2 : (ndD y).eq (ndD x) = true := h
      rw [nd_eq, decide_eq_true_eq] at h2
      subst h2; exact hy
    · intro h
      exact ⟨x, h, by show (ndD x).eq (ndD x) = true; rw [nd_eq]; simp⟩
  rw [e]
  rfl
end Nv
-- S_13d
-- classes: Machine
namespace Nv
open PySem PySem.Spec PyProof.Rows L2
def goK (sg : Tx) (rows : List (List Way)) (κ : Option Tx) (p : Nd) (c : Nat) : Nd := ((wayAt sg rows p.1 c).1, p.2 || hkK κ (wayAt sg rows p.1 c).2)
def wK (ends : List (List Tx)) (κ : Option Tx) (p : Nd) : Bool := (p.2 || hkK κ (ends.getD p.1 [])) == κ.isSome
def lfE (sg : Tx) (rows : List (List Way)) (ends : List (List Tx)) (κ : Option Tx) (E : List En) (n : Nat) : Ev :=
  [.dat (tD sg), .dat (.tup [rwsI false rows, ensI false false ends]), .dat (kyD κ), .own none (.lst ((E.map Prod.fst).map ndD)), .own none (.lst ((E.map Prod.snd).map tD)), .dat (.int (n : Nat)), .un, .un, .un, .un, .un, .un, .un]
/-- the loop over the signs' places -/
theorem rg_fold {β : Type} (f : β → Nat → β) (sg : Tx) (b : β) : (List.range sg.length).foldl (fun b i => f b (sg.getD i 0)) b = sg.foldl f b := by
  have e : (List.range sg.length).map (fun i => sg.getD i 0) = sg := List.ext_getElem (by simp) fun i h1 h2 => by
    rw [List.getElem_map, List.getElem_range, List.getD_eq_getElem?_getD, List.getElem?_eq_getElem h2]; rfl
  conv => rhs; rw [← e]
  rw [List.foldl_map]
/-- the texts are short, the states the machine's -/
structure TL (a : Nat) (E : List En) (m : Nat) : Prop where
  l : ∀ e ∈ E, e.2.length ≤ m
  s : ∀ e ∈ E, e.1.1 < a
  n : E.length ≤ 5 * m + 1
theorem TL.add {a m : Nat} {E : List En} {q : En} (h : TL a E m) (h1 : q.2.length ≤ m) (h2 : q.1.1 < a) (hn : E.length + 1 ≤ 5 * m + 1) : TL a (adN E q) m := by
  unfold adN
  split
  · exact h
  · refine ⟨fun e he => ?_, fun e he => ?_, by rw [List.length_append, List.length_singleton]; exact hn⟩
    · rcases List.mem_append.mp he with he | he
      · exact h.l e he
      · rw [List.mem_singleton.mp he]; exact h1
    · rcases List.mem_append.mp he with he | he
      · exact h.s e he
      · rw [List.mem_singleton.mp he]; exact h2
theorem map_adN (E : List En) (q : En) : adN E q = if q.1 ∈ E.map Prod.fst then E else E ++ [q] := rfl
section
variable {sg : Tx} {rows : List (List Way)} {ends : List (List Tx)} {κ : Option Tx}
theorem goK_lt (h : MtOk sg rows ends) (p : Nd) (c : Nat) (hp : p.1 < rows.length) (hc : c ∈ sg) : (goK sg rows κ p c).1 < rows.length := by
  obtain ⟨r, h1, h2, h3, h4⟩ := wayAt_get hp h.row hc
  exact h.go r h2 _ h4
theorem adN_len (E : List En) (q : En) : (adN E q).length ≤ E.length + 1 := by
  unfold adN
  split
  · omega
  · rw [List.length_append, List.length_singleton]; omega
theorem stN_TL {a m : Nat} (go : Nd → Nat → Nd) (p : En) : ∀ (l : Tx) (E : List En), TL a E m → p.2.length + 1 ≤ m → (∀ c ∈ l, (go p.1 c).1 < a) → E.length + l.length ≤ 5 * m + 1 → TL a (stN go p l E) m
  | [], E, h, _, _, _ => h
  | c :: l, E, h, h1, h2, h3 => by
    rw [List.length_cons] at h3
    have := adN_len E (go p.1 c, p.2 ++ [c])
    exact stN_TL go p l (adN E (go p.1 c, p.2 ++ [c])) (h.add (by show (p.2 ++ [c]).length ≤ m; rw [List.length_append, List.length_singleton]; exact h1) (h2 c List.mem_cons_self) (by omega)) h1 (fun d hd => h2 d (List.mem_cons_of_mem _ hd)) (by omega)
theorem lf_turn (nd : sg.Nodup) (h : MtOk sg rows ends) (n : Nat) (hn9 : n ≤ 100) (B : List En) (p : En) (hp : B[n]? = some p) (tl : TL rows.length B n) (hW : wK ends κ p.1 = false) (hB : B.length ≤ 500) :
    b__law_first_2 (lfE sg rows ends κ B n) = .nx (lfE sg rows ends κ (stN (goK sg rows κ) p sg B) (n + 1)) ∧ TL rows.length (stN (goK sg rows κ) p sg B) (n + 1) := by
  have hs := h.s
  have mp := List.mem_of_getElem? hp
  have ps := tl.s p mp
  have pl := tl.l p mp
  obtain ⟨g1, g2⟩ := end_get (ends := ends) (i := p.1.1) (by rw [h.en]; exact ps)
  have lo := fun S8 : Slot => forL_s (g := tName 9) (f := b__law_first_1) (fun E : List En => [.dat (tD sg), .dat (.tup [rwsI false rows, ensI false false ends]), .dat (kyD κ), .own none (.lst ((E.map Prod.fst).map ndD)), .own none (.lst ((E.map Prod.snd).map tD)), .dat (.int (n : Nat)), .dat (.int (p.1.1 : Nat)),   .dat (.bl p.1.2), S8, .un, .un, .un, .un])
    (fun i : Nat => .int (0 + (i : Nat))) (fun E i => adN E (goK sg rows κ p.1 (sg.getD i 0), p.2 ++ [sg.getD i 0]))
    (fun l E => (∀ i ∈ l, i < sg.length) ∧ B <+: E ∧ TL rows.length E (n + 1) ∧ E.length + l.length ≤ 510 ∧ E.length + l.length ≤ 5 * n + 1 + 4) (List.range sg.length) B ⟨fun i hi => List.mem_range.mp hi, List.prefix_refl _, ⟨fun e he => Nat.le_succ_of_le (tl.l e he), tl.s, by have := tl.n; omega⟩, by rw [List.length_range]; omega, by rw [List.length_range]; have := tl.n; omega⟩ fun i l E ⟨hi, hpre, hT, hl, hl2⟩ => by
      rw [List.length_cons] at hl hl2
      have hi1 := hi i List.mem_cons_self
      obtain ⟨c, ec⟩ : ∃ c, c = sg.getD i 0 := ⟨_, rfl⟩
      have gc : sg[i]? = some c := by rw [ec, List.getD_eq_getElem?_getD, List.getElem?_eq_getElem hi1]; rfl
      have hc : c ∈ sg := List.mem_of_getElem? gc
      have ix : sg.idxOf c = i := by
        have := List.Nodup.idxOf_getElem nd i hi1
        rw [← (Option.some.inj ((List.getElem?_eq_getElem hi1).symm.trans gc))]
        exact this
      obtain ⟨r, r1, r2, r3, r4⟩ := wayAt_get ps h.row hc
      rw [ix] at r3
      have kn := h.kn r r2 _ r4
      have pE : E[n]? = some p := by rw [preN_get hpre (List.getElem?_eq_some_iff.mp hp).1]; exact hp
      refine ⟨?_, fun d hd => hi d (List.mem_cons_of_mem _ hd), hpre.trans (adN_pre _ _), hT.add (by show (p.2 ++ [_]).length ≤ _; rw [List.length_append, List.length_singleton]; omega) (by rw [← ec]; exact goK_lt h p.1 c ps hc) (by omega), ?_, ?_⟩
      · rw [← ec]
        have x1 : (rows.map (rwI false))[p.1.1]? = some (.lst (r.map (wyI false))) := by rw [List.getElem?_map, r1]; rfl
        have x2 : (r.map (wyI false))[i]? = some (.tup [.int ((wayAt sg rows p.1.1 c).1 : Nat), .lst ((wayAt sg rows p.1.1 c).2.map tD)]) := by rw [List.getElem?_map, r3]; rfl
        have x3 : ((E.map Prod.snd).map tD)[n]? = some (tD p.2) := by rw [List.getElem?_map, List.getElem?_map, pE]; rfl
        have x4 := ad_cL p.2 c (by omega)
        have hk := has_ok κ (wayAt sg rows p.1.1 c).2
        have q : gNin (.tup [.int ((wayAt sg rows p.1.1 c).1 : Nat), .bl (p.1.2 || hkK κ (wayAt sg rows p.1.1 c).2)]) (.lst ((E.map Prod.fst).map ndD)) = some (.dat (.bl (!decide (goK sg rows κ p.1 c ∈ E.map Prod.fst)))) := in_nds (goK sg rows κ p.1 c) (E.map Prod.fst)
        have pd : ndD (goK sg rows κ p.1 c) = .tup [.int ((wayAt sg rows p.1.1 c).1 : Nat), .bl (p.1.2 || hkK κ (wayAt sg rows p.1.1 c).2)] := rfl
        have ll : (wayAt sg rows p.1.1 c).2.length ≤ 16777216 := by omega
        have gi : gIx (tD sg) (.int (i : Nat)) = some (.dat (cD c)) := by
          rw [ix_S, if_pos (by rw [sl_eq]; omega), atI_nat gc]
          rfl
        rw [map_adN]
        by_cases hw : goK sg rows κ p.1 c ∈ E.map Prod.fst
        · rw [decide_eq_true hw] at q
          rw [if_pos hw]
          cases hb : p.1.2 with
          | true =>
            rw [hb, Bool.true_or] at q
            simp_all! only [↓turnF_ap, kF1_ap, ↓turnC_ap, ↓kC1_ap, ↓kC2_ap, ↓kC3_ap, ↓turnN_ap, ↓kN1_ap, ↓kN2_ap, ↓kN3_ap, ↓bodyN_nil, ↓bodyN_cons, ↓kBN_ap, ↓kBC_ap, ↓bodyD_ap, ↓kBD1_ap, ↓kBD2_ap, goes_nx, goes_ct, tc_if, tn_if, fc_Machine_signs, fp_Machine_signs, fg_Machine_signs_0, fg_Machine_signs_1, fg_Machine_signs_2, fg_Machine_signs_3, fc_Machine_rows, fp_Machine_rows, fg_Machine_rows_1, fg_Machine_rows_2, fg_Machine_rows_3, fc_Machine_ends, fp_Machine_ends, fg_Machine_ends_2, fg_Machine_ends_3, fc_Machine_all_keys, fp_Machine_all_keys, fg_Machine_all_keys_3, fm_Machine_after, fm_Machine_far_keys, fm_Machine_keys_of, fm_Machine_read, ↓b__law_first_1, rwsI, x1, x2, x3, x4, q, hk, gi, ll]
          | false =>
            rw [hb, Bool.false_or] at q
            simp_all! only [↓turnF_ap, kF1_ap, ↓turnC_ap, ↓kC1_ap, ↓kC2_ap, ↓kC3_ap, ↓turnN_ap, ↓kN1_ap, ↓kN2_ap, ↓kN3_ap, ↓bodyN_nil, ↓bodyN_cons, ↓kBN_ap, ↓kBC_ap, ↓bodyD_ap, ↓kBD1_ap, ↓kBD2_ap, goes_nx, goes_ct, tc_if, tn_if, fc_Machine_signs, fp_Machine_signs, fg_Machine_signs_0, fg_Machine_signs_1, fg_Machine_signs_2, fg_Machine_signs_3, fc_Machine_rows, fp_Machine_rows, fg_Machine_rows_1, fg_Machine_rows_2, fg_Machine_rows_3, fc_Machine_ends, fp_Machine_ends, fg_Machine_ends_2, fg_Machine_ends_3, fc_Machine_all_keys, fp_Machine_all_keys, fg_Machine_all_keys_3, fm_Machine_after, fm_Machine_far_keys, fm_Machine_keys_of, fm_Machine_read, ↓b__law_first_1, rwsI, x1, x2, x3, x4, q, hk, gi, ll]
        · rw [decide_eq_false hw] at q
          rw [if_neg hw, List.map_append, List.map_append, List.map_append, List.map_append]
          cases hb : p.1.2 with
          | true =>
            rw [hb, Bool.true_or] at q pd
            simp_all! only [↓turnF_ap, kF1_ap, ↓turnC_ap, ↓kC1_ap, ↓kC2_ap, ↓kC3_ap, ↓turnN_ap, ↓kN1_ap, ↓kN2_ap, ↓kN3_ap, ↓bodyN_nil, ↓bodyN_cons, ↓kBN_ap, ↓kBC_ap, ↓bodyD_ap, ↓kBD1_ap, ↓kBD2_ap, goes_nx, goes_ct, tc_if, tn_if, fc_Machine_signs, fp_Machine_signs, fg_Machine_signs_0, fg_Machine_signs_1, fg_Machine_signs_2, fg_Machine_signs_3, fc_Machine_rows, fp_Machine_rows, fg_Machine_rows_1, fg_Machine_rows_2, fg_Machine_rows_3, fc_Machine_ends, fp_Machine_ends, fg_Machine_ends_2, fg_Machine_ends_3, fc_Machine_all_keys, fp_Machine_all_keys, fg_Machine_all_keys_3, fm_Machine_after, fm_Machine_far_keys, fm_Machine_keys_of, fm_Machine_read, ↓b__law_first_1, rwsI, x1, x2, x3, x4, q, hk, gi, ll, pd]
          | false =>
            rw [hb, Bool.false_or] at q pd
            simp_all! only [↓turnF_ap, kF1_ap, ↓turnC_ap, ↓kC1_ap, ↓kC2_ap, ↓kC3_ap, ↓turnN_ap, ↓kN1_ap, ↓kN2_ap, ↓kN3_ap, ↓bodyN_nil, ↓bodyN_cons, ↓kBN_ap, ↓kBC_ap, ↓bodyD_ap, ↓kBD1_ap, ↓kBD2_ap, goes_nx, goes_ct, tc_if, tn_if, fc_Machine_signs, fp_Machine_signs, fg_Machine_signs_0, fg_Machine_signs_1, fg_Machine_signs_2, fg_Machine_signs_3, fc_Machine_rows, fp_Machine_rows, fg_Machine_rows_1, fg_Machine_rows_2, fg_Machine_rows_3, fc_Machine_ends, fp_Machine_ends, fg_Machine_ends_2, fg_Machine_ends_3, fc_Machine_all_keys, fp_Machine_all_keys, fg_Machine_all_keys_3, fm_Machine_after, fm_Machine_far_keys, fm_Machine_keys_of, fm_Machine_read, ↓b__law_first_1, rwsI, x1, x2, x3, x4, q, hk, gi, ll, pd]
      · have := adN_len E (goK sg rows κ p.1 (sg.getD i 0), p.2 ++ [sg.getD i 0])
        omega
      · have := adN_len E (goK sg rows κ p.1 (sg.getD i 0), p.2 ++ [sg.getD i 0])
        omega
  have lo := fun S8 => (lo S8).trans (congrArg (fun E => Out.nx [.dat (tD sg), .dat (.tup [rwsI false rows, ensI false false ends]), .dat (kyD κ), .own none (.lst ((E.map Prod.fst).map ndD)), .own none (.lst ((E.map Prod.snd).map tD)), .dat (.int (n : Nat)), .dat (.int (p.1.1 : Nat)), .dat (.bl p.1.2), S8, .un, .un, .un, .un]) (rg_fold (fun E c => adN E (goK sg rows κ p.1 c, p.2 ++ [c])) sg B))
  have e0 : sg.foldl (fun E c => adN E (goK sg rows κ p.1 c, p.2 ++ [c])) B = stN (goK sg rows κ) p sg B := rfl
  rw [e0] at lo
  have tn := tl.n
  refine ⟨?_, stN_TL _ p sg B ⟨fun e he => Nat.le_succ_of_le (tl.l e he), tl.s, by omega⟩ (by omega) (fun c hc => goK_lt h p.1 c ps hc) (by omega)⟩
  obtain ⟨C, eC⟩ : ∃ C, C = stN (goK sg rows κ) p sg B := ⟨_, rfl⟩
  rw [← eC] at lo ⊢
  have x5 : ((B.map Prod.fst).map ndD)[n]? = some (.tup [.int (p.1.1 : Nat), .bl p.1.2]) := by rw [List.getElem?_map, List.getElem?_map, hp]; rfl
  have x6 : (ends.map (enI' false))[p.1.1]? = some (.lst ((ends.getD p.1.1 []).map tD)) := by rw [List.getElem?_map, g1]; rfl
  have e3 : ensI false false ends = .lst (ends.map (enI' false)) := rfl
  have hk := has_ok κ (ends.getD p.1.1 [])
  have hi : (kyD κ).isN = !κ.isSome := by cases κ <;> rfl
  have le := h.el _ g2
  have ll : (ends.getD p.1.1 []).length ≤ 16777216 := by omega
  unfold wK at hW
  unfold lfE
  rw [e3] at lo ⊢
  have lo : ∀ S8 : Slot, forL (tName 9) b__law_first_1 (rangeD 0 sg.length) [.dat (tD sg), .dat (.tup [rwsI false rows, .lst (ends.map (enI' false))]), .dat (kyD κ), .own none (.lst ((B.map Prod.fst).map ndD)), .own none (.lst ((B.map Prod.snd).map tD)), .dat (.int (n : Nat)), .dat (.int (p.1.1 : Nat)), .dat (.bl p.1.2), S8, .un, .un, .un, .un] =
    .nx [.dat (tD sg), .dat (.tup [rwsI false rows, .lst (ends.map (enI' false))]), .dat (kyD κ), .own none (.lst ((C.map Prod.fst).map ndD)), .own none (.lst ((C.map Prod.snd).map tD)), .dat (.int (n : Nat)), .dat (.int (p.1.1 : Nat)), .dat (.bl p.1.2), S8, .un, .un, .un, .un] := lo
  cases hb : p.1.2 with
  | true =>
    rw [hb] at lo x5
    rw [hb, Bool.true_or] at hW
    have hW : (true = κ.isSome) = False := eq_false fun z => by rw [← z] at hW; cases hW
    simp_all! only [↓turnF_ap, kF1_ap, ↓turnC_ap, ↓kC1_ap, ↓kC2_ap, ↓kC3_ap, ↓turnN_ap, ↓kN1_ap, ↓kN2_ap, ↓kN3_ap, ↓bodyN_nil, ↓bodyN_cons, ↓kBN_ap, ↓kBC_ap, ↓bodyD_ap, ↓kBD1_ap, ↓kBD2_ap, goes_nx, goes_ct, tc_if, tn_if, fc_Machine_signs, fp_Machine_signs, fg_Machine_signs_0, fg_Machine_signs_1, fg_Machine_signs_2, fg_Machine_signs_3, fc_Machine_rows, fp_Machine_rows, fg_Machine_rows_1, fg_Machine_rows_2, fg_Machine_rows_3, fc_Machine_ends, fp_Machine_ends, fg_Machine_ends_2, fg_Machine_ends_3, fc_Machine_all_keys, fp_Machine_all_keys, fg_Machine_all_keys_3, fm_Machine_after, fm_Machine_far_keys, fm_Machine_keys_of, fm_Machine_read, ↓b__law_first_2, x5, x6, hk, hi, ll, Bool.not_not, hW, lo]
  | false =>
    rw [hb] at lo x5
    rw [hb, Bool.false_or] at hW
    have hW : (hkK κ (ends.getD p.1.1 []) = κ.isSome) = False := eq_false fun z => by rw [z, beq_self_eq_true] at hW; cases hW
    simp_all! only [↓turnF_ap, kF1_ap, ↓turnC_ap, ↓kC1_ap, ↓kC2_ap, ↓kC3_ap, ↓turnN_ap, ↓kN1_ap, ↓kN2_ap, ↓kN3_ap, ↓bodyN_nil, ↓bodyN_cons, ↓kBN_ap, ↓kBC_ap, ↓bodyD_ap, ↓kBD1_ap, ↓kBD2_ap, goes_nx, goes_ct, tc_if, tn_if, fc_Machine_signs, fp_Machine_signs, fg_Machine_signs_0, fg_Machine_signs_1, fg_Machine_signs_2, fg_Machine_signs_3, fc_Machine_rows, fp_Machine_rows, fg_Machine_rows_1, fg_Machine_rows_2, fg_Machine_rows_3, fc_Machine_ends, fp_Machine_ends, fg_Machine_ends_2, fg_Machine_ends_3, fc_Machine_all_keys, fp_Machine_all_keys, fg_Machine_all_keys_3, fm_Machine_after, fm_Machine_far_keys, fm_Machine_keys_of, fm_Machine_read, ↓b__law_first_2, x5, x6, hk, hi, ll, Bool.not_not, hW, lo]
end
end Nv
-- S_13e
-- classes: Machine
namespace Nv
open PySem PySem.Spec PyProof.Rows L2
section
variable {sg : Tx} {rows : List (List Way)} {ends : List (List Tx)} {κ : Option Tx}
theorem lf_ret (h : MtOk sg rows ends) (n : Nat) (B : List En) (p : En) (hp : B[n]? = some p) (tl : TL rows.length B n) (hn9 : n ≤ 100) (hW : wK ends κ p.1 = true) :
    ∃ Γ', b__law_first_2 (lfE sg rows ends κ B n) = .rt (.dat (tD p.2)) (.dat (tD sg) :: .dat (.tup [rwsI false rows, ensI false false ends]) :: .dat (kyD κ) :: Γ') := by
  have hs := h.s
  have mp := List.mem_of_getElem? hp
  have ps := tl.s p mp
  have pl := tl.l p mp
  have tn := tl.n
  have bl : n < B.length := (List.getElem?_eq_some_iff.mp hp).1
  obtain ⟨g1, g2⟩ := end_get (ends := ends) (i := p.1.1) (by rw [h.en]; exact ps)
  have x5 : ((B.map Prod.fst).map ndD)[n]? = some (.tup [.int (p.1.1 : Nat), .bl p.1.2]) := by rw [List.getElem?_map, List.getElem?_map, hp]; rfl
  have x7 : ((B.map Prod.snd).map tD)[n]? = some (tD p.2) := by rw [List.getElem?_map, List.getElem?_map, hp]; rfl
  have x6 : (ends.map (enI' false))[p.1.1]? = some (.lst ((ends.getD p.1.1 []).map tD)) := by rw [List.getElem?_map, g1]; rfl
  have e3 : ensI false false ends = .lst (ends.map (enI' false)) := rfl
  have hk := has_ok κ (ends.getD p.1.1 [])
  have hi : (kyD κ).isN = !κ.isSome := by cases κ <;> rfl
  have le := h.el _ g2
  have ll : (ends.getD p.1.1 []).length ≤ 16777216 := by omega
  unfold wK at hW
  unfold lfE
  rw [e3]
  cases hb : p.1.2 with
  | true =>
    rw [hb] at x5
    rw [hb, Bool.true_or] at hW
    have hW : (true = κ.isSome) = True := eq_true (by simpa using hW)
    refine ⟨[.own none (.lst ((B.map Prod.fst).map ndD)), .own none (.lst ((B.map Prod.snd).map tD)), .dat (.int (n : Nat)), .dat (.int (p.1.1 : Nat)), .dat (.bl true), .own none (.lst ((ends.getD p.1.1 []).map tD)), .un, .un, .un, .un], ?_⟩
    simp_all! only [↓turnF_ap, kF1_ap, ↓turnC_ap, ↓kC1_ap, ↓kC2_ap, ↓kC3_ap, ↓turnN_ap, ↓kN1_ap, ↓kN2_ap, ↓kN3_ap, ↓bodyN_nil, ↓bodyN_cons, ↓kBN_ap, ↓kBC_ap, ↓bodyD_ap, ↓kBD1_ap, ↓kBD2_ap, goes_nx, goes_ct, tc_if, tn_if, fc_Machine_signs, fp_Machine_signs, fg_Machine_signs_0, fg_Machine_signs_1, fg_Machine_signs_2, fg_Machine_signs_3, fc_Machine_rows, fp_Machine_rows, fg_Machine_rows_1, fg_Machine_rows_2, fg_Machine_rows_3, fc_Machine_ends, fp_Machine_ends, fg_Machine_ends_2, fg_Machine_ends_3, fc_Machine_all_keys, fp_Machine_all_keys, fg_Machine_all_keys_3, fm_Machine_after, fm_Machine_far_keys, fm_Machine_keys_of, fm_Machine_read, ↓b__law_first_2, x5, x6, x7, hk, hi, ll, Bool.not_not, hW]
  | false =>
    rw [hb] at x5
    rw [hb, Bool.false_or] at hW
    have hW : (hkK κ (ends.getD p.1.1 []) = κ.isSome) = True := eq_true (by simpa using hW)
    refine ⟨[.own none (.lst ((B.map Prod.fst).map ndD)), .own none (.lst ((B.map Prod.snd).map tD)), .dat (.int (n : Nat)), .dat (.int (p.1.1 : Nat)), .dat (.bl false), .dat (.lst ((ends.getD p.1.1 []).map tD)), .un, .un, .un, .un], ?_⟩
    simp_all! only [↓turnF_ap, kF1_ap, ↓turnC_ap, ↓kC1_ap, ↓kC2_ap, ↓kC3_ap, ↓turnN_ap, ↓kN1_ap, ↓kN2_ap, ↓kN3_ap, ↓bodyN_nil, ↓bodyN_cons, ↓kBN_ap, ↓kBC_ap, ↓bodyD_ap, ↓kBD1_ap, ↓kBD2_ap, goes_nx, goes_ct, tc_if, tn_if, fc_Machine_signs, fp_Machine_signs, fg_Machine_signs_0, fg_Machine_signs_1, fg_Machine_signs_2, fg_Machine_signs_3, fc_Machine_rows, fp_Machine_rows, fg_Machine_rows_1, fg_Machine_rows_2, fg_Machine_rows_3, fc_Machine_ends, fp_Machine_ends, fg_Machine_ends_2, fg_Machine_ends_3, fc_Machine_all_keys, fp_Machine_all_keys, fg_Machine_all_keys_3, fm_Machine_after, fm_Machine_far_keys, fm_Machine_keys_of, fm_Machine_read, ↓b__law_first_2, x5, x6, x7, hk, hi, ll, Bool.not_not, hW]
theorem sr_next {go : Nd → Nat → Nd} {W : Nd → Bool} {n m : Nat} {p : En} (hp : (bfN sg go n)[n]? = some p) (hW : W p.1 = false) : srN sg go W (m + 1) n = srN sg go W m (n + 1) := by
  have hn := (List.getElem?_eq_some_iff.mp hp).1
  have ep : (bfN sg go n).getD n d0N = p := by rw [List.getD_eq_getElem?_getD, hp]; rfl
  conv => lhs; unfold srN
  rw [if_pos hn, ep, if_neg (by rw [hW]; decide)]
theorem sr_hit {go : Nd → Nat → Nd} {W : Nd → Bool} {n m : Nat} {p : En} (hp : (bfN sg go n)[n]? = some p) (hW : W p.1 = true) : srN sg go W (m + 1) n = some p.2 := by
  have hn := (List.getElem?_eq_some_iff.mp hp).1
  have ep : (bfN sg go n).getD n d0N = p := by rw [List.getD_eq_getElem?_getD, hp]; rfl
  unfold srN
  rw [if_pos hn, ep, if_pos hW]
theorem sr_end {go : Nd → Nat → Nd} {W : Nd → Bool} {n m : Nat} (hn : ¬ n < (bfN sg go n).length) : srN sg go W m n = none := by
  cases m with
  | zero => rfl
  | succ m => unfold srN; rw [if_neg hn]
theorem bf_next {go : Nd → Nat → Nd} {n : Nat} {p : En} (hp : (bfN sg go n)[n]? = some p) : bfN sg go (n + 1) = stN go p sg (bfN sg go n) := by
  have ep : (bfN sg go n).getD n d0N = p := by rw [List.getD_eq_getElem?_getD, hp]; rfl
  show stN go ((bfN sg go n).getD n d0N) sg (bfN sg go n) = _
  rw [ep]
/-- what the loops keep -/
structure LI (sg : Tx) (go : Nd → Nat → Nd) (W : Nd → Bool) (a n : Nat) : Prop where
  bn : BN sg go n
  tl : TL a (bfN sg go n) n
  sr : srN sg go W (80 - n) n = srN sg go W 80 0
theorem li0 {go : Nd → Nat → Nd} {W : Nd → Bool} {a : Nat} (ha : 0 < a) : LI sg go W a 0 :=
  ⟨bn0, ⟨fun e he => by rw [List.mem_singleton.mp he]; exact Nat.le_refl _, fun e he => by rw [List.mem_singleton.mp he]; exact ha, Nat.le_refl _⟩, rfl⟩
theorem lfirst_ok (nd : sg.Nodup) (h : MtOk sg rows ends) : f__law_first [.dat (tD sg), .dat (.tup [rwsI false rows, ensI false false ends]), .dat (kyD κ)] = .ok (.dat (oTD (srN sg (goK sg rows κ) (wK ends κ) 80 0))) [.dat (tD sg), .dat (.tup [rwsI false rows, ensI false false ends]), .dat (kyD κ)] := by
  have hn := h.n
  obtain ⟨R, eR⟩ : ∃ R, R = srN sg (goK sg rows κ) (wK ends κ) 80 0 := ⟨_, rfl⟩
  rw [← eR]
  have lo := whileS_inv (S := Nat) (t := tstE (op2 gLt (slotB 5) (datB (frzE (opA (gA1 gLen) (consA (slotB 3) nilA)))))) (f := b__law_first_2) (fun n => lfE sg rows ends κ (bfN sg (goK sg rows κ) n) n) (fun n => 100 - n) (LI sg (goK sg rows κ) (wK ends κ) rows.length)
    (fun o => (∃ t, R = some t ∧ ∃ Γ', o = .rt (.dat (tD t)) (.dat (tD sg) :: .dat (.tup [rwsI false rows, ensI false false ends]) :: .dat (kyD κ) :: Γ')) ∨ (R = none ∧ ∃ n, o = .nx (lfE sg rows ends κ (bfN sg (goK sg rows κ) n) n))) (fun n hb => by
      have few := hb.bn.few h.n0 (fun p c => goK_lt h p c)
      have le := hb.bn.le
      by_cases hl : n < (bfN sg (goK sg rows κ) n).length
      · have gp : (bfN sg (goK sg rows κ) n)[n]? = some ((bfN sg (goK sg rows κ) n)[n]'hl) := List.getElem?_eq_getElem hl
        obtain ⟨p, ep⟩ : ∃ p, p = (bfN sg (goK sg rows κ) n)[n]'hl := ⟨_, rfl⟩
        rw [← ep] at gp
        have hsr := hb.sr
        rw [show 80 - n = (80 - (n + 1)) + 1 by omega] at hsr
        refine .inr ⟨?_, ?_⟩
        · unfold lfE
          simp_all! only [↓turnF_ap, kF1_ap, ↓turnC_ap, ↓kC1_ap, ↓kC2_ap, ↓kC3_ap, ↓turnN_ap, ↓kN1_ap, ↓kN2_ap, ↓kN3_ap, ↓bodyN_nil, ↓bodyN_cons, ↓kBN_ap, ↓kBC_ap, ↓bodyD_ap, ↓kBD1_ap, ↓kBD2_ap, goes_nx, goes_ct, tc_if, tn_if, fc_Machine_signs, fp_Machine_signs, fg_Machine_signs_0, fg_Machine_signs_1, fg_Machine_signs_2, fg_Machine_signs_3, fc_Machine_rows, fp_Machine_rows, fg_Machine_rows_1, fg_Machine_rows_2, fg_Machine_rows_3, fc_Machine_ends, fp_Machine_ends, fg_Machine_ends_2, fg_Machine_ends_3, fc_Machine_all_keys, fp_Machine_all_keys, fg_Machine_all_keys_3, fm_Machine_after, fm_Machine_far_keys, fm_Machine_keys_of, fm_Machine_read, hl]
        · cases hW : wK ends κ p.1 with
          | true =>
            obtain ⟨Γ', q⟩ := lf_ret h n _ p gp hb.tl (by omega) hW
            rw [sr_hit gp hW, ← eR] at hsr
            exact .inr (.inl ⟨_, _, q, .inl ⟨_, hsr.symm, Γ', rfl⟩⟩)
          | false =>
            obtain ⟨q1, q2⟩ := lf_turn nd h n (by omega) _ p gp hb.tl hW (by omega)
            rw [← bf_next gp] at q1 q2
            rw [sr_next gp hW] at hsr
            exact .inl ⟨n + 1, q1, ⟨(hb.bn.next nd hl).1, q2, hsr⟩, by omega⟩
      · refine .inl ⟨?_, .inr ⟨?_, n, rfl⟩⟩
        · unfold lfE
          simp_all! only [↓turnF_ap, kF1_ap, ↓turnC_ap, ↓kC1_ap, ↓kC2_ap, ↓kC3_ap, ↓turnN_ap, ↓kN1_ap, ↓kN2_ap, ↓kN3_ap, ↓bodyN_nil, ↓bodyN_cons, ↓kBN_ap, ↓kBC_ap, ↓bodyD_ap, ↓kBD1_ap, ↓kBD2_ap, goes_nx, goes_ct, tc_if, tn_if, fc_Machine_signs, fp_Machine_signs, fg_Machine_signs_0, fg_Machine_signs_1, fg_Machine_signs_2, fg_Machine_signs_3, fc_Machine_rows, fp_Machine_rows, fg_Machine_rows_1, fg_Machine_rows_2, fg_Machine_rows_3, fc_Machine_ends, fp_Machine_ends, fg_Machine_ends_2, fg_Machine_ends_3, fc_Machine_all_keys, fp_Machine_all_keys, fg_Machine_all_keys_3, fm_Machine_after, fm_Machine_far_keys, fm_Machine_keys_of, fm_Machine_read, hl]
        · rw [eR, ← hb.sr, sr_end hl]) fuel 0 (li0 h.n0) (by unfold fuel; decide)
  have e0 : lfE sg rows ends κ (bfN sg (goK sg rows κ) 0) 0 = [.dat (tD sg), .dat (.tup [rwsI false rows, ensI false false ends]), .dat (kyD κ), .own none (.lst [.tup [.int 0, .bl false]]), .own none (.lst [tD []]), .dat (.int 0), .un, .un, .un, .un, .un, .un, .un] := rfl
  rw [e0] at lo
  rcases lo with ⟨t, e, Γ', lo⟩ | ⟨e, n, lo⟩
  · rw [e]
    unfold oTD
    simp_all! only [↓turnF_ap, kF1_ap, ↓turnC_ap, ↓kC1_ap, ↓kC2_ap, ↓kC3_ap, ↓turnN_ap, ↓kN1_ap, ↓kN2_ap, ↓kN3_ap, ↓bodyN_nil, ↓bodyN_cons, ↓kBN_ap, ↓kBC_ap, ↓bodyD_ap, ↓kBD1_ap, ↓kBD2_ap, goes_nx, goes_ct, tc_if, tn_if, fc_Machine_signs, fp_Machine_signs, fg_Machine_signs_0, fg_Machine_signs_1, fg_Machine_signs_2, fg_Machine_signs_3, fc_Machine_rows, fp_Machine_rows, fg_Machine_rows_1, fg_Machine_rows_2, fg_Machine_rows_3, fc_Machine_ends, fp_Machine_ends, fg_Machine_ends_2, fg_Machine_ends_3, fc_Machine_all_keys, fp_Machine_all_keys, fg_Machine_all_keys_3, fm_Machine_after, fm_Machine_far_keys, fm_Machine_keys_of, fm_Machine_read, ↓u__law_first, ↓d__law_first, lo]
  · rw [e]
    unfold oTD
    unfold lfE at lo
    simp_all! only [↓turnF_ap, kF1_ap, ↓turnC_ap, ↓kC1_ap, ↓kC2_ap, ↓kC3_ap, ↓turnN_ap, ↓kN1_ap, ↓kN2_ap, ↓kN3_ap, ↓bodyN_nil, ↓bodyN_cons, ↓kBN_ap, ↓kBC_ap, ↓bodyD_ap, ↓kBD1_ap, ↓kBD2_ap, goes_nx, goes_ct, tc_if, tn_if, fc_Machine_signs, fp_Machine_signs, fg_Machine_signs_0, fg_Machine_signs_1, fg_Machine_signs_2, fg_Machine_signs_3, fc_Machine_rows, fp_Machine_rows, fg_Machine_rows_1, fg_Machine_rows_2, fg_Machine_rows_3, fc_Machine_ends, fp_Machine_ends, fg_Machine_ends_2, fg_Machine_ends_3, fc_Machine_all_keys, fp_Machine_all_keys, fg_Machine_all_keys_3, fm_Machine_after, fm_Machine_far_keys, fm_Machine_keys_of, fm_Machine_read, ↓u__law_first, ↓d__law_first, lo]
end
end Nv
-- S_13f
-- n105
-- classes: Machine
namespace Nv
open PySem PySem.Spec PyProof.Rows L2
def dueB (sg : Tx) (rows : List (List Way)) (ends : List (List Tx)) : Option Tx → Tx → Bool
  | some k, t => decide (k ∈ readK sg rows ends t)
  | none, t => decide (readK sg rows ends t = [])
section
variable {sg : Tx} {rows : List (List Way)} {ends : List (List Tx)} {κ : Option Tx}
theorem hk_app (κ : Option Tx) (a b : List Tx) : hkK κ (a ++ b) = (hkK κ a || hkK κ b) := by
  cases κ with
  | none =>
    show decide (0 < (a ++ b).length) = (decide (0 < a.length) || decide (0 < b.length))
    rw [List.length_append, Bool.eq_iff_iff, Bool.or_eq_true, decide_eq_true_eq, decide_eq_true_eq, decide_eq_true_eq]
    omega
  | some k =>
    show decide (k ∈ a ++ b) = (decide (k ∈ a) || decide (k ∈ b))
    rw [Bool.eq_iff_iff, Bool.or_eq_true, decide_eq_true_eq, decide_eq_true_eq, decide_eq_true_eq, List.mem_append]
theorem hk_asc (κ : Option Tx) (l : List Tx) : hkK κ (asc l) = hkK κ l := by
  cases κ with
  | none =>
    unfold hkK
    rw [Bool.eq_iff_iff, decide_eq_true_eq, decide_eq_true_eq]
    constructor
    · intro h
      obtain ⟨x, hx⟩ := List.exists_mem_of_length_pos h
      exact List.length_pos_of_mem (asc_mem.mp hx)
    · intro h
      obtain ⟨x, hx⟩ := List.exists_mem_of_length_pos h
      exact List.length_pos_of_mem (asc_mem.mpr hx)
  | some k =>
    unfold hkK
    rw [Bool.eq_iff_iff, decide_eq_true_eq, decide_eq_true_eq, asc_mem]
theorem nd_rd (κ : Option Tx) : ∀ (t : Tx) (p : Nd) (s : WkS), p.1 = s.at_ → p.2 = hkK κ s.given → (t.foldl (goK sg rows κ) p).1 = (rdRun sg rows t s).at_ ∧ (t.foldl (goK sg rows κ) p).2 = hkK κ (rdRun sg rows t s).given
  | [], p, s, h1, h2 => ⟨h1, h2⟩
  | c :: t, p, s, h1, h2 => nd_rd κ t (goK sg rows κ p c) (rdStep sg rows s c) (by show (wayAt sg rows p.1 c).1 = _; rw [h1]; rfl) (by
      show (p.2 || hkK κ (wayAt sg rows p.1 c).2) = hkK κ (s.given ++ (wayAt sg rows s.at_ c).2)
      rw [hk_app, h1, h2])
theorem due_w (κ : Option Tx) (t : Tx) : wK ends κ (ndR (goK sg rows κ) t) = dueB sg rows ends κ t := by
  obtain ⟨e1, e2⟩ := nd_rd (sg := sg) (rows := rows) κ t (0, false) ⟨0, []⟩ rfl (by cases κ <;> rfl)
  have e3 : hkK κ (readK sg rows ends t) = ((ndR (goK sg rows κ) t).2 || hkK κ (ends.getD (ndR (goK sg rows κ) t).1 [])) := by
    unfold readK ndR
    rw [hk_asc, hk_app, e1, e2]
  unfold wK
  rw [← e3]
  cases κ with
  | none =>
    show (decide (0 < (readK sg rows ends t).length) == false) = decide (readK sg rows ends t = [])
    cases readK sg rows ends t with
    | nil => rfl
    | cons a l => rfl
  | some k =>
    show (decide (k ∈ readK sg rows ends t) == true) = decide (k ∈ readK sg rows ends t)
    cases decide (k ∈ readK sg rows ends t) <;> rfl
theorem srK_ok (nd : sg.Nodup) (h : MtOk sg rows ends) (κ : Option Tx) : match srN sg (goK sg rows κ) (wK ends κ) 80 0 with
      | some t => (∀ c ∈ t, c ∈ sg) ∧ dueB sg rows ends κ t = true ∧ ∀ u : Tx, (∀ c ∈ u, c ∈ sg) → dueB sg rows ends κ u = true → rkT sg t ≤ rkT sg u
      | none => ∀ u : Tx, (∀ c ∈ u, c ∈ sg) → dueB sg rows ends κ u = false := by
  have hn := h.n
  have q := sr_ok (sg := sg) (go := goK sg rows κ) (a := rows.length) nd h.n0 (fun p c => goK_lt h p c) (wK ends κ) 80 0 bn0 (fun i hi => absurd hi (Nat.not_lt_zero _)) (by omega)
  cases e : srN sg (goK sg rows κ) (wK ends κ) 80 0 with
  | some t =>
    rw [e] at q
    dsimp only at q ⊢
    obtain ⟨q1, q2, q3⟩ := q
    rw [due_w] at q2
    exact ⟨q1, q2, fun u hu hd => q3 u hu (by rw [due_w]; exact hd)⟩
  | none =>
    rw [e] at q
    dsimp only at q ⊢
    intro u hu
    have := q u hu
    rw [due_w] at this
    exact this
theorem stN_mem {go : Nd → Nat → Nd} {p : En} : ∀ (l : Tx) (E : List En) (e : En), e ∈ stN go p l E → e ∈ E ∨ ∃ c, e.2 = p.2 ++ [c]
  | [], E, e, h => .inl h
  | c :: l, E, e, h => by
    rcases stN_mem l (adN E (go p.1 c, p.2 ++ [c])) e h with h | h
    · unfold adN at h
      split at h
      · exact .inl h
      · rcases List.mem_append.mp h with h | h
        · exact .inl h
        · rw [List.mem_singleton.mp h]; exact .inr ⟨c, rfl⟩
    · exact .inr h
theorem bf_len {go : Nd → Nat → Nd} : ∀ (n : Nat) (e : En), e ∈ bfN sg go n → e.2.length ≤ n
  | 0, e, h => by rw [List.mem_singleton.mp h]; exact Nat.le_refl _
  | n + 1, e, h => by
    have lp : ((bfN sg go n).getD n d0N).2.length ≤ n := by
      rw [List.getD_eq_getElem?_getD]
      cases q : (bfN sg go n)[n]? with
      | none => exact Nat.zero_le _
      | some p => exact bf_len n p (List.mem_of_getElem? q)
    rcases stN_mem sg (bfN sg go n) e h with h | ⟨c, h⟩
    · exact Nat.le_succ_of_le (bf_len n e h)
    · rw [h, List.length_append, List.length_singleton]; omega
theorem sr_len {go : Nd → Nat → Nd} {W : Nd → Bool} : ∀ (f n : Nat) (t : Tx), srN sg go W f n = some t → t.length ≤ n + f
  | 0, n, t, h => by cases h
  | f + 1, n, t, h => by
    unfold srN at h
    split at h
    · rename_i hl
      split at h
      · cases h
        have : (bfN sg go n).getD n d0N ∈ bfN sg go n := by rw [List.getD_eq_getElem?_getD, List.getElem?_eq_getElem hl]; exact List.getElem_mem hl
        have := bf_len n _ this
        omega
      · have := sr_len f (n + 1) t h
        omega
    · cases h
theorem eq_none (l : List Tx) : gEq (.tup (l.map tD)) (.tup []) = some (.dat (.bl (decide (l = [])))) := by
  have s1 : (D.tup (l.map tD)).eqs = true := by
    obtain ⟨m, e, hm⟩ := sh_all sh_t l
    have q : Sh 1 (.tup (l.map tD)) := ⟨m + 1, by unfold D.eqd; rw [e]; rfl, by omega⟩
    exact q.eqs (by decide)
  have s2 : (D.tup []).eqs = true := rfl
  unfold gEq
  rw [s1, s2, if_pos (by rfl), eq_tup]
  cases l with
  | nil => rfl
  | cons a l => first | rfl | (simp [D.eqa])
theorem are_ok {words : List Tx} (nd : sg.Nodup) (h : MtOk sg rows ends) (w : InW words rows ends) (hw : words.length ≤ 60) (s0 : 0 < sg.length) (κ : Option Tx) :
    f__law_are_first [.dat (tD sg), .dat (.tup [rwsI false rows, ensI false false ends]), .dat (oTD (srN sg (goK sg rows κ) (wK ends κ) 80 0)), .dat (kyD κ)] = .ok (.dat (.bl true)) [.dat (tD sg), .dat (.tup [rwsI false rows, ensI false false ends]), .dat (oTD (srN sg (goK sg rows κ) (wK ends κ) 80 0)), .dat (kyD κ)] := by
  have hs := h.s
  obtain ⟨l1, l2, l3⟩ := law_texts_x sg 3 hs (by omega)
  have fd := first_due (sg := sg) nd s0 3 _ (srK_ok nd h κ) l2
  have ol := sr_len (sg := sg) (go := goK sg rows κ) (W := wK ends κ) 80 0
  obtain ⟨o, eo⟩ : ∃ o, o = srN sg (goK sg rows κ) (wK ends κ) 80 0 := ⟨_, rfl⟩
  rw [← eo] at fd ol ⊢
  have tt : ∀ t : Tx, gIn (kyD κ) (.tup ((readK sg rows ends t).map tD)) = some (.dat (.bl (dueB sg rows ends κ t))) ∨ κ = none := fun t => by
    cases κ with
    | none => exact .inr rfl
    | some k => exact .inl (in_tt k _)
  have lo := forL_f (g := tName 4) (f := b__law_are_first_1) (Γ := [.dat (tD sg), .dat (.tup [rwsI false rows, ensI false false ends]), .dat (oTD o), .dat (kyD κ), .un, .un]) tD (dueB sg rows ends κ) (fun t => .rt (.dat (.bl (decide (o = some t)))) [.dat (tD sg), .dat (.tup [rwsI false rows, ensI false false ends]), .dat (oTD o), .dat (kyD κ), .dat (tD t), .dat (.tup ((readK sg rows ends t).map tD))]) (allT sg 3) (fun x hx => .inl ⟨_, _, rfl⟩) fun x hx => by
      obtain ⟨x1, x2⟩ := l2 x hx
      have rd := read_ok h w hw x x2 (by omega)
      have ot : gEq (oTD o) (tD x) = some (.dat (.bl (decide (o = some x)))) := by
        cases o with
        | none => rfl
        | some t =>
          have e : gEq (tD t) (tD x) = some (.dat (.bl (decide (t = x)))) := by first | exact gEq_S | exact eqS_ok
          have e2 : decide (some t = some x) = decide (t = x) := by rw [Bool.eq_iff_iff, decide_eq_true_eq, decide_eq_true_eq, Option.some.injEq]
          rw [e2]; exact e
      cases κ with
      | none =>
        have kd : kyD none = .non := rfl
        have e9 : gEq (.tup ((readK sg rows ends x).map tD)) (.tup []) = some (.dat (.bl (dueB sg rows ends none x))) := by
          show gEq (.tup ((readK sg rows ends x).map tD)) (.tup []) = some (.dat (.bl (decide (readK sg rows ends x = []))))
          exact eq_none (readK sg rows ends x)
        by_cases hd : dueB sg rows ends none x = true
        · rw [if_pos hd]
          rw [hd] at e9
          simp_all! only [↓turnF_ap, kF1_ap, ↓turnC_ap, ↓kC1_ap, ↓kC2_ap, ↓kC3_ap, ↓turnN_ap, ↓kN1_ap, ↓kN2_ap, ↓kN3_ap, ↓bodyN_nil, ↓bodyN_cons, ↓kBN_ap, ↓kBC_ap, ↓bodyD_ap, ↓kBD1_ap, ↓kBD2_ap, goes_nx, goes_ct, tc_if, tn_if, fc_Machine_signs, fp_Machine_signs, fg_Machine_signs_0, fg_Machine_signs_1, fg_Machine_signs_2, fg_Machine_signs_3, fc_Machine_rows, fp_Machine_rows, fg_Machine_rows_1, fg_Machine_rows_2, fg_Machine_rows_3, fc_Machine_ends, fp_Machine_ends, fg_Machine_ends_2, fg_Machine_ends_3, fc_Machine_all_keys, fp_Machine_all_keys, fg_Machine_all_keys_3, fm_Machine_after, fm_Machine_far_keys, fm_Machine_keys_of, fm_Machine_read, ↓ifT_ap2, ↓kIfT_ap, ↓resV_ok, ↓b__law_are_first_1, rd, kd, e9, ot]
        · rw [if_neg hd]
          rw [Bool.eq_false_iff.mpr hd] at e9
          refine .inl ?_
          simp_all! only [↓turnF_ap, kF1_ap, ↓turnC_ap, ↓kC1_ap, ↓kC2_ap, ↓kC3_ap, ↓turnN_ap, ↓kN1_ap, ↓kN2_ap, ↓kN3_ap, ↓bodyN_nil, ↓bodyN_cons, ↓kBN_ap, ↓kBC_ap, ↓bodyD_ap, ↓kBD1_ap, ↓kBD2_ap, goes_nx, goes_ct, tc_if, tn_if, fc_Machine_signs, fp_Machine_signs, fg_Machine_signs_0, fg_Machine_signs_1, fg_Machine_signs_2, fg_Machine_signs_3, fc_Machine_rows, fp_Machine_rows, fg_Machine_rows_1, fg_Machine_rows_2, fg_Machine_rows_3, fc_Machine_ends, fp_Machine_ends, fg_Machine_ends_2, fg_Machine_ends_3, fc_Machine_all_keys, fp_Machine_all_keys, fg_Machine_all_keys_3, fm_Machine_after, fm_Machine_far_keys, fm_Machine_keys_of, fm_Machine_read, ↓ifT_ap2, ↓kIfT_ap, ↓resV_ok, ↓b__law_are_first_1, rd, kd, e9, ot]
      | some k =>
        have kd : kyD (some k) = tD k := rfl
        have e9 : gIn (tD k) (.tup ((readK sg rows ends x).map tD)) = some (.dat (.bl (dueB sg rows ends (some k) x))) := in_tt k _
        by_cases hd : dueB sg rows ends (some k) x = true
        · rw [if_pos hd]
          rw [hd] at e9
          simp_all! only [↓turnF_ap, kF1_ap, ↓turnC_ap, ↓kC1_ap, ↓kC2_ap, ↓kC3_ap, ↓turnN_ap, ↓kN1_ap, ↓kN2_ap, ↓kN3_ap, ↓bodyN_nil, ↓bodyN_cons, ↓kBN_ap, ↓kBC_ap, ↓bodyD_ap, ↓kBD1_ap, ↓kBD2_ap, goes_nx, goes_ct, tc_if, tn_if, fc_Machine_signs, fp_Machine_signs, fg_Machine_signs_0, fg_Machine_signs_1, fg_Machine_signs_2, fg_Machine_signs_3, fc_Machine_rows, fp_Machine_rows, fg_Machine_rows_1, fg_Machine_rows_2, fg_Machine_rows_3, fc_Machine_ends, fp_Machine_ends, fg_Machine_ends_2, fg_Machine_ends_3, fc_Machine_all_keys, fp_Machine_all_keys, fg_Machine_all_keys_3, fm_Machine_after, fm_Machine_far_keys, fm_Machine_keys_of, fm_Machine_read, ↓ifT_ap2, ↓kIfT_ap, ↓resV_ok, ↓b__law_are_first_1, rd, kd, e9, ot]
        · rw [if_neg hd]
          rw [Bool.eq_false_iff.mpr hd] at e9
          refine .inl ?_
          simp_all! only [↓turnF_ap, kF1_ap, ↓turnC_ap, ↓kC1_ap, ↓kC2_ap, ↓kC3_ap, ↓turnN_ap, ↓kN1_ap, ↓kN2_ap, ↓kN3_ap, ↓bodyN_nil, ↓bodyN_cons, ↓kBN_ap, ↓kBC_ap, ↓bodyD_ap, ↓kBD1_ap, ↓kBD2_ap, goes_nx, goes_ct, tc_if, tn_if, fc_Machine_signs, fp_Machine_signs, fg_Machine_signs_0, fg_Machine_signs_1, fg_Machine_signs_2, fg_Machine_signs_3, fc_Machine_rows, fp_Machine_rows, fg_Machine_rows_1, fg_Machine_rows_2, fg_Machine_rows_3, fc_Machine_ends, fp_Machine_ends, fg_Machine_ends_2, fg_Machine_ends_3, fc_Machine_all_keys, fp_Machine_all_keys, fg_Machine_all_keys_3, fm_Machine_after, fm_Machine_far_keys, fm_Machine_keys_of, fm_Machine_read, ↓ifT_ap2, ↓kIfT_ap, ↓resV_ok, ↓b__law_are_first_1, rd, kd, e9, ot]
  rw [show (((3 : Nat)) : Int) = 3 from rfl] at l1
  cases ef : (allT sg 3).find? (dueB sg rows ends κ) with
  | some t =>
    rw [ef] at fd lo
    dsimp only at fd lo
    rw [decide_eq_true fd] at lo
    simp_all! only [↓turnF_ap, kF1_ap, ↓turnC_ap, ↓kC1_ap, ↓kC2_ap, ↓kC3_ap, ↓turnN_ap, ↓kN1_ap, ↓kN2_ap, ↓kN3_ap, ↓bodyN_nil, ↓bodyN_cons, ↓kBN_ap, ↓kBC_ap, ↓bodyD_ap, ↓kBD1_ap, ↓kBD2_ap, goes_nx, goes_ct, tc_if, tn_if, fc_Machine_signs, fp_Machine_signs, fg_Machine_signs_0, fg_Machine_signs_1, fg_Machine_signs_2, fg_Machine_signs_3, fc_Machine_rows, fp_Machine_rows, fg_Machine_rows_1, fg_Machine_rows_2, fg_Machine_rows_3, fc_Machine_ends, fp_Machine_ends, fg_Machine_ends_2, fg_Machine_ends_3, fc_Machine_all_keys, fp_Machine_all_keys, fg_Machine_all_keys_3, fm_Machine_after, fm_Machine_far_keys, fm_Machine_keys_of, fm_Machine_read, ↓ifT_ap2, ↓kIfT_ap, ↓resV_ok, ↓u__law_are_first, ↓d__law_are_first, l1, lo]
  | none =>
    rw [ef] at fd lo
    dsimp only at fd lo
    rcases fd with e | ⟨t, e, l⟩
    · rw [e] at lo ⊢
      unfold oTD at lo ⊢
      simp_all! only [↓turnF_ap, kF1_ap, ↓turnC_ap, ↓kC1_ap, ↓kC2_ap, ↓kC3_ap, ↓turnN_ap, ↓kN1_ap, ↓kN2_ap, ↓kN3_ap, ↓bodyN_nil, ↓bodyN_cons, ↓kBN_ap, ↓kBC_ap, ↓bodyD_ap, ↓kBD1_ap, ↓kBD2_ap, goes_nx, goes_ct, tc_if, tn_if, fc_Machine_signs, fp_Machine_signs, fg_Machine_signs_0, fg_Machine_signs_1, fg_Machine_signs_2, fg_Machine_signs_3, fc_Machine_rows, fp_Machine_rows, fg_Machine_rows_1, fg_Machine_rows_2, fg_Machine_rows_3, fc_Machine_ends, fp_Machine_ends, fg_Machine_ends_2, fg_Machine_ends_3, fc_Machine_all_keys, fp_Machine_all_keys, fg_Machine_all_keys_3, fm_Machine_after, fm_Machine_far_keys, fm_Machine_keys_of, fm_Machine_read, ↓ifT_ap2, ↓kIfT_ap, ↓resV_ok, ↓u__law_are_first, ↓d__law_are_first, l1, lo]
    · have := ol t e
      rw [e] at lo ⊢
      unfold oTD at lo ⊢
      simp_all! only [↓turnF_ap, kF1_ap, ↓turnC_ap, ↓kC1_ap, ↓kC2_ap, ↓kC3_ap, ↓turnN_ap, ↓kN1_ap, ↓kN2_ap, ↓kN3_ap, ↓bodyN_nil, ↓bodyN_cons, ↓kBN_ap, ↓kBC_ap, ↓bodyD_ap, ↓kBD1_ap, ↓kBD2_ap, goes_nx, goes_ct, tc_if, tn_if, fc_Machine_signs, fp_Machine_signs, fg_Machine_signs_0, fg_Machine_signs_1, fg_Machine_signs_2, fg_Machine_signs_3, fc_Machine_rows, fp_Machine_rows, fg_Machine_rows_1, fg_Machine_rows_2, fg_Machine_rows_3, fc_Machine_ends, fp_Machine_ends, fg_Machine_ends_2, fg_Machine_ends_3, fc_Machine_all_keys, fp_Machine_all_keys, fg_Machine_all_keys_3, fm_Machine_after, fm_Machine_far_keys, fm_Machine_keys_of, fm_Machine_read, ↓ifT_ap2, ↓kIfT_ap, ↓resV_ok, ↓u__law_are_first, ↓d__law_are_first, l1, lo, l]
end
end Nv
-- S_13g
-- classes: Machine
-- n105
namespace Nv
open PySem PySem.Spec PyProof.Rows L2
def ftE (sg : Tx) (a0 a1 : FA) (T : Ev) (E : List En) (n : Nat) : Ev :=
  .dat (tD sg) :: .dat (ndD (0, false)) :: a0.fn :: a1.fn :: .own none (.lst ((E.map Prod.fst).map ndD)) :: .own none (.lst ((E.map Prod.snd).map tD)) :: .dat (.int (n : Nat)) :: .un :: .un :: T
section
variable {sg : Tx} {go : Nd → Nat → Nd} {W : Nd → Bool} {a : Nat} {a0 a1 : FA} {R : Ev}
/-- what the two functions tell -/
structure GW (sg : Tx) (go : Nd → Nat → Nd) (W : Nd → Bool) (a : Nat) (a0 a1 : FA) : Prop where
  f0 : a0.ws.length = a0.ds.length
  f1 : a1.ws.length = a1.ds.length
  n0 : a0.n = 2
  n1 : a1.n = 1
  g0 : ∀ (p : Nd) (c : Nat), p.1 < a → c ∈ sg → ∃ outs, a0.G (AV.dat (ndD p) :: AV.dat (cD c) :: List.map AV.dat a0.ds) = .ok (.dat (ndD (go p c))) outs
  g1 : ∀ p : Nd, p.1 < a → ∃ outs, a1.G (AV.dat (ndD p) :: List.map AV.dat a1.ds) = .ok (.dat (.bl (W p))) outs
  lt : ∀ (p : Nd) (c : Nat), p.1 < a → c ∈ sg → (go p c).1 < a
theorem ft_turn (g : GW sg go W a a0 a1) (hs : sg.length ≤ 4) (n : Nat) (hn9 : n ≤ 100) (B : List En) (p : En) (hp : B[n]? = some p) (tl : TL a B n) (hW : W p.1 = false) (hB : B.length ≤ 500) :
    b_first_text_2 [a0, a1] (ftE sg a0 a1 (a0.exs ++ (a1.exs ++ R)) B n) = .nx (ftE sg a0 a1 (a0.exs ++ (a1.exs ++ R)) (stN go p sg B) (n + 1)) ∧ TL a (stN go p sg B) (n + 1) := by
  have mp := List.mem_of_getElem? hp
  have ps := tl.s p mp
  have pl := tl.l p mp
  have tn := tl.n
  have lo := forL_s (g := tName 7) (f := b_first_text_1 [a0, a1]) (fun E : List En => ftE sg a0 a1 (a0.exs ++ (a1.exs ++ R)) E n) cD (fun E c => adN E (go p.1 c, p.2 ++ [c]))
    (fun l E => (∀ c ∈ l, c ∈ sg) ∧ B <+: E ∧ E.length + l.length ≤ 510) sg B ⟨fun c hc => hc, List.prefix_refl _, by omega⟩ fun c l E ⟨hc, hpre, hl⟩ => by
      rw [List.length_cons] at hl
      have hc1 := hc c List.mem_cons_self
      have pE : E[n]? = some p := by rw [preN_get hpre (List.getElem?_eq_some_iff.mp hp).1]; exact hp
      refine ⟨?_, fun d hd => hc d (List.mem_cons_of_mem _ hd), hpre.trans (adN_pre _ _), ?_⟩
      · have x3 : ((E.map Prod.snd).map tD)[n]? = some (tD p.2) := by rw [List.getElem?_map, List.getElem?_map, pE]; rfl
        have x5 : ((E.map Prod.fst).map ndD)[n]? = some (ndD p.1) := by rw [List.getElem?_map, List.getElem?_map, pE]; rfl
        have x4 := ad_cL p.2 c (by omega)
        obtain ⟨os, hg⟩ := g.g0 p.1 c ps hc1
        have c0 := fun s0 s1 s4 s5 s6 s7 s8 x y => cv1_0 (a0 := a0) (a1 := a1) (s0 := s0) (s1 := s1) (s4 := s4) (s5 := s5) (s6 := s6) (s7 := s7) (s8 := s8) (x := x) (y := y) (R := a1.exs ++ R) g.f0 g.n0
        have q := in_nds (go p.1 c) (E.map Prod.fst)
        rw [map_adN]
        by_cases hw : go p.1 c ∈ E.map Prod.fst
        · rw [decide_eq_true hw] at q
          rw [if_pos hw]
          simp_all! only [↓turnF_ap, kF1_ap, ↓turnC_ap, ↓kC1_ap, ↓kC2_ap, ↓kC3_ap, ↓turnN_ap, ↓kN1_ap, ↓kN2_ap, ↓kN3_ap, ↓bodyN_nil, ↓bodyN_cons, ↓kBN_ap, ↓kBC_ap, ↓bodyD_ap, ↓kBD1_ap, ↓kBD2_ap, goes_nx, goes_ct, tc_if, tn_if, fc_Machine_signs, fp_Machine_signs, fg_Machine_signs_0, fg_Machine_signs_1, fg_Machine_signs_2, fg_Machine_signs_3, fc_Machine_rows, fp_Machine_rows, fg_Machine_rows_1, fg_Machine_rows_2, fg_Machine_rows_3, fc_Machine_ends, fp_Machine_ends, fg_Machine_ends_2, fg_Machine_ends_3, fc_Machine_all_keys, fp_Machine_all_keys, fg_Machine_all_keys_3, fm_Machine_after, fm_Machine_far_keys, fm_Machine_keys_of, fm_Machine_read, ↓ifT_ap2, ↓kIfT_ap, ↓resV_ok, ↓b_first_text_1, ftE, ↓cv_ap0, ↓c0, hg, x3, x4, x5, q]
        · rw [decide_eq_false hw] at q
          rw [if_neg hw]
          simp_all! only [↓turnF_ap, kF1_ap, ↓turnC_ap, ↓kC1_ap, ↓kC2_ap, ↓kC3_ap, ↓turnN_ap, ↓kN1_ap, ↓kN2_ap, ↓kN3_ap, ↓bodyN_nil, ↓bodyN_cons, ↓kBN_ap, ↓kBC_ap, ↓bodyD_ap, ↓kBD1_ap, ↓kBD2_ap, goes_nx, goes_ct, tc_if, tn_if, fc_Machine_signs, fp_Machine_signs, fg_Machine_signs_0, fg_Machine_signs_1, fg_Machine_signs_2, fg_Machine_signs_3, fc_Machine_rows, fp_Machine_rows, fg_Machine_rows_1, fg_Machine_rows_2, fg_Machine_rows_3, fc_Machine_ends, fp_Machine_ends, fg_Machine_ends_2, fg_Machine_ends_3, fc_Machine_all_keys, fp_Machine_all_keys, fg_Machine_all_keys_3, fm_Machine_after, fm_Machine_far_keys, fm_Machine_keys_of, fm_Machine_read, ↓ifT_ap2, ↓kIfT_ap, ↓resV_ok, ↓b_first_text_1, ftE, ↓cv_ap0, ↓c0, hg, x3, x4, x5, q]
          skip
      · have := adN_len E (go p.1 c, p.2 ++ [c])
        omega
  have e0 : sg.foldl (fun E c => adN E (go p.1 c, p.2 ++ [c])) B = stN go p sg B := rfl
  rw [e0] at lo
  refine ⟨?_, stN_TL _ p sg B ⟨fun e he => Nat.le_succ_of_le (tl.l e he), tl.s, by omega⟩ (by omega) (fun c hc => g.lt p.1 c ps hc) (by omega)⟩
  have x5 : ((B.map Prod.fst).map ndD)[n]? = some (ndD p.1) := by rw [List.getElem?_map, List.getElem?_map, hp]; rfl
  obtain ⟨os, hg⟩ := g.g1 p.1 ps
  rw [hW] at hg
  have c1 := fun s0 s1 s4 s5 s6 s7 s8 x => cv1_1 (a0 := a0) (a1 := a1) (s0 := s0) (s1 := s1) (s4 := s4) (s5 := s5) (s6 := s6) (s7 := s7) (s8 := s8) (x := x) (R := R) g.f0 g.f1 g.n1
  have au : ∀ (s0 s1 s2 s3 s4 s5 : Slot) (i : Int) (Γ' : Ev), augS 6 (fun i j => i + j) (cst (.int 1)) (s0 :: s1 :: s2 :: s3 :: s4 :: s5 :: .dat (.int i) :: Γ') = .nx (s0 :: s1 :: s2 :: s3 :: s4 :: s5 :: .dat (.int (i + 1)) :: Γ') := fun _ _ _ _ _ _ _ _ => rfl
  unfold ftE at lo ⊢
  simp_all! only [↓turnF_ap, kF1_ap, ↓turnC_ap, ↓kC1_ap, ↓kC2_ap, ↓kC3_ap, ↓turnN_ap, ↓kN1_ap, ↓kN2_ap, ↓kN3_ap, ↓bodyN_nil, ↓bodyN_cons, ↓kBN_ap, ↓kBC_ap, ↓bodyD_ap, ↓kBD1_ap, ↓kBD2_ap, goes_nx, goes_ct, tc_if, tn_if, fc_Machine_signs, fp_Machine_signs, fg_Machine_signs_0, fg_Machine_signs_1, fg_Machine_signs_2, fg_Machine_signs_3, fc_Machine_rows, fp_Machine_rows, fg_Machine_rows_1, fg_Machine_rows_2, fg_Machine_rows_3, fc_Machine_ends, fp_Machine_ends, fg_Machine_ends_2, fg_Machine_ends_3, fc_Machine_all_keys, fp_Machine_all_keys, fg_Machine_all_keys_3, fm_Machine_after, fm_Machine_far_keys, fm_Machine_keys_of, fm_Machine_read, ↓ifT_ap2, ↓kIfT_ap, ↓resV_ok, ↓b_first_text_2, x5, ↓cv_ap1, ↓c1, hg, lo, ↓au]
theorem ft_ret (g : GW sg go W a a0 a1) (n : Nat) (B : List En) (p : En) (hp : B[n]? = some p) (tl : TL a B n) (hn9 : n ≤ 100) (hW : W p.1 = true) :
    ∃ Γ', b_first_text_2 [a0, a1] (ftE sg a0 a1 (a0.exs ++ (a1.exs ++ R)) B n) = .rt (.dat (tD p.2)) Γ' := by
  have mp := List.mem_of_getElem? hp
  have ps := tl.s p mp
  have tn := tl.n
  have bl : n < B.length := (List.getElem?_eq_some_iff.mp hp).1
  have x5 : ((B.map Prod.fst).map ndD)[n]? = some (ndD p.1) := by rw [List.getElem?_map, List.getElem?_map, hp]; rfl
  have x7 : ((B.map Prod.snd).map tD)[n]? = some (tD p.2) := by rw [List.getElem?_map, List.getElem?_map, hp]; rfl
  obtain ⟨os, hg⟩ := g.g1 p.1 ps
  rw [hW] at hg
  have c1 := fun s0 s1 s4 s5 s6 s7 s8 x => cv1_1 (a0 := a0) (a1 := a1) (s0 := s0) (s1 := s1) (s4 := s4) (s5 := s5) (s6 := s6) (s7 := s7) (s8 := s8) (x := x) (R := R) g.f0 g.f1 g.n1
  refine ⟨ftE sg a0 a1 (a0.exs ++ (a1.exs ++ R)) B n, ?_⟩
  unfold ftE
  simp_all! only [↓turnF_ap, kF1_ap, ↓turnC_ap, ↓kC1_ap, ↓kC2_ap, ↓kC3_ap, ↓turnN_ap, ↓kN1_ap, ↓kN2_ap, ↓kN3_ap, ↓bodyN_nil, ↓bodyN_cons, ↓kBN_ap, ↓kBC_ap, ↓bodyD_ap, ↓kBD1_ap, ↓kBD2_ap, goes_nx, goes_ct, tc_if, tn_if, fc_Machine_signs, fp_Machine_signs, fg_Machine_signs_0, fg_Machine_signs_1, fg_Machine_signs_2, fg_Machine_signs_3, fc_Machine_rows, fp_Machine_rows, fg_Machine_rows_1, fg_Machine_rows_2, fg_Machine_rows_3, fc_Machine_ends, fp_Machine_ends, fg_Machine_ends_2, fg_Machine_ends_3, fc_Machine_all_keys, fp_Machine_all_keys, fg_Machine_all_keys_3, fm_Machine_after, fm_Machine_far_keys, fm_Machine_keys_of, fm_Machine_read, ↓ifT_ap2, ↓kIfT_ap, ↓resV_ok, ↓b_first_text_2, x5, x7, ↓cv_ap1, ↓c1, hg]
theorem ft_loop (g : GW sg go W a a0 a1) (nd : sg.Nodup) (hs : sg.length ≤ 4) (ha : 0 < a) (ha2 : a ≤ 16) :
    (∃ t, srN sg go W 80 0 = some t ∧ ∃ Γ', whileS (tstE (op2 gLt (slotB 6) (datB (frzE (opA (gA1 gLen) (consA (slotB 4) nilA)))))) (b_first_text_2 [a0, a1]) fuel (ftE sg a0 a1 (a0.exs ++ (a1.exs ++ R)) [d0N] 0) = .rt (.dat (tD t)) Γ') ∨
      (srN sg go W 80 0 = none ∧ ∃ n, whileS (tstE (op2 gLt (slotB 6) (datB (frzE (opA (gA1 gLen) (consA (slotB 4) nilA)))))) (b_first_text_2 [a0, a1]) fuel (ftE sg a0 a1 (a0.exs ++ (a1.exs ++ R)) [d0N] 0) = .nx (ftE sg a0 a1 (a0.exs ++ (a1.exs ++ R)) (bfN sg go n) n)) := by
  obtain ⟨R0, eR⟩ : ∃ R, R = srN sg go W 80 0 := ⟨_, rfl⟩
  rw [← eR]
  refine whileS_inv (S := Nat) (t := tstE (op2 gLt (slotB 6) (datB (frzE (opA (gA1 gLen) (consA (slotB 4) nilA)))))) (f := b_first_text_2 [a0, a1]) (fun n => ftE sg a0 a1 (a0.exs ++ (a1.exs ++ R)) (bfN sg go n) n) (fun n => 100 - n) (LI sg go W a)
    (fun o => (∃ t, R0 = some t ∧ ∃ Γ', o = .rt (.dat (tD t)) Γ') ∨ (R0 = none ∧ ∃ n, o = .nx (ftE sg a0 a1 (a0.exs ++ (a1.exs ++ R)) (bfN sg go n) n))) (fun n hb => ?_) fuel 0 (li0 ha) (by unfold fuel; decide)
  have few := hb.bn.few ha g.lt
  have le := hb.bn.le
  by_cases hl : n < (bfN sg go n).length
  · have gp : (bfN sg go n)[n]? = some ((bfN sg go n)[n]'hl) := List.getElem?_eq_getElem hl
    obtain ⟨p, ep⟩ : ∃ p, p = (bfN sg go n)[n]'hl := ⟨_, rfl⟩
    rw [← ep] at gp
    have hsr := hb.sr
    rw [show 80 - n = (80 - (n + 1)) + 1 by omega] at hsr
    refine .inr ⟨?_, ?_⟩
    · unfold ftE
      simp_all! only [↓turnF_ap, kF1_ap, ↓turnC_ap, ↓kC1_ap, ↓kC2_ap, ↓kC3_ap, ↓turnN_ap, ↓kN1_ap, ↓kN2_ap, ↓kN3_ap, ↓bodyN_nil, ↓bodyN_cons, ↓kBN_ap, ↓kBC_ap, ↓bodyD_ap, ↓kBD1_ap, ↓kBD2_ap, goes_nx, goes_ct, tc_if, tn_if, fc_Machine_signs, fp_Machine_signs, fg_Machine_signs_0, fg_Machine_signs_1, fg_Machine_signs_2, fg_Machine_signs_3, fc_Machine_rows, fp_Machine_rows, fg_Machine_rows_1, fg_Machine_rows_2, fg_Machine_rows_3, fc_Machine_ends, fp_Machine_ends, fg_Machine_ends_2, fg_Machine_ends_3, fc_Machine_all_keys, fp_Machine_all_keys, fg_Machine_all_keys_3, fm_Machine_after, fm_Machine_far_keys, fm_Machine_keys_of, fm_Machine_read, ↓ifT_ap2, ↓kIfT_ap, ↓resV_ok, hl]
    · cases hW : W p.1 with
      | true =>
        obtain ⟨Γ', q⟩ := ft_ret (R := R) g n _ p gp hb.tl (by omega) hW
        rw [sr_hit gp hW, ← eR] at hsr
        exact .inr (.inl ⟨_, _, q, .inl ⟨_, hsr.symm, Γ', rfl⟩⟩)
      | false =>
        obtain ⟨q1, q2⟩ := ft_turn (R := R) g hs n (by omega) _ p gp hb.tl hW (by omega)
        rw [← bf_next gp] at q1 q2
        rw [sr_next gp hW] at hsr
        exact .inl ⟨n + 1, q1, ⟨(hb.bn.next nd hl).1, q2, hsr⟩, by omega⟩
  · refine .inl ⟨?_, .inr ⟨?_, n, rfl⟩⟩
    · unfold ftE
      simp_all! only [↓turnF_ap, kF1_ap, ↓turnC_ap, ↓kC1_ap, ↓kC2_ap, ↓kC3_ap, ↓turnN_ap, ↓kN1_ap, ↓kN2_ap, ↓kN3_ap, ↓bodyN_nil, ↓bodyN_cons, ↓kBN_ap, ↓kBC_ap, ↓bodyD_ap, ↓kBD1_ap, ↓kBD2_ap, goes_nx, goes_ct, tc_if, tn_if, fc_Machine_signs, fp_Machine_signs, fg_Machine_signs_0, fg_Machine_signs_1, fg_Machine_signs_2, fg_Machine_signs_3, fc_Machine_rows, fp_Machine_rows, fg_Machine_rows_1, fg_Machine_rows_2, fg_Machine_rows_3, fc_Machine_ends, fp_Machine_ends, fg_Machine_ends_2, fg_Machine_ends_3, fc_Machine_all_keys, fp_Machine_all_keys, fg_Machine_all_keys_3, fm_Machine_after, fm_Machine_far_keys, fm_Machine_keys_of, fm_Machine_read, ↓ifT_ap2, ↓kIfT_ap, ↓resV_ok, hl]
    · rw [eR, ← hb.sr, sr_end hl]
end
theorem first_ok {sg : Tx} {go : Nd → Nat → Nd} {W : Nd → Bool} {a : Nat} {ds0 ds1 : List D} {G0 G1 : List AV → FR} (nd : sg.Nodup) (hs : sg.length ≤ 4) (ha : 0 < a) (ha2 : a ≤ 16) (hl : ds0.length + ds1.length ≤ 8)
    (g0 : ∀ (p : Nd) (c : Nat), p.1 < a → c ∈ sg → ∃ outs, G0 (AV.dat (ndD p) :: AV.dat (cD c) :: List.map AV.dat ds0) = .ok (.dat (ndD (go p c))) outs)
    (g1 : ∀ p : Nd, p.1 < a → ∃ outs, G1 (AV.dat (ndD p) :: List.map AV.dat ds1) = .ok (.dat (.bl (W p))) outs)
    (lt : ∀ (p : Nd) (c : Nat), p.1 < a → c ∈ sg → (go p c).1 < a) : f_first_text [(2, ds0, G0), (1, ds1, G1)] [tD sg, ndD (0, false)] = .ok (.dat (oTD (srN sg go W 80 0))) [] := by
  unfold f_first_text
  refine fnF_is (by show 2 + 2 + 5 + (ds0 ++ (ds1 ++ [])).length ≤ 17; rw [List.append_nil, List.length_append]; omega) fun fas e fit => ?_
  have el : fas.length = 2 := by
    have := congrArg List.length e
    unfold sgOf at this
    rw [List.length_map] at this
    exact this
  match fas, e, fit, el with
  | [b0, b1], e, fit, _ =>
    have e' : [(b0.n, b0.ds, b0.G), (b1.n, b1.ds, b1.G)] = [(2, ds0, G0), (1, ds1, G1)] := e
    injection e' with e1 e2
    injection e2 with e2 _
    injection e1 with m0 e1
    injection e1 with d0 G0'
    injection e2 with m1 e2
    injection e2 with d1 G1'
    subst d0 d1 G0' G1'
    have g : GW sg go W a b0 b1 := ⟨fit b0 (by simp), fit b1 (by simp), m0, m1, g0, g1, lt⟩
    obtain ⟨rest, er⟩ : ∃ rest, rest = List.replicate (17 - (2 + 2 + 5 + ([b0, b1].flatMap FA.exs).length)) Slot.un := ⟨_, rfl⟩
    have eΓ : envFA 17 5 [tD sg, ndD (0, false)] [b0, b1] = .dat (tD sg) :: .dat (ndD (0, false)) :: b0.fn :: b1.fn :: .un :: .un :: .un :: .un :: .un :: (b0.exs ++ (b1.exs ++ rest)) := by
      have : envFA 17 5 [tD sg, ndD (0, false)] [b0, b1] = .dat (tD sg) :: .dat (ndD (0, false)) :: b0.fn :: b1.fn :: .un :: .un :: .un :: .un :: .un :: ((b0.exs ++ (b1.exs ++ [])) ++ rest) := by rw [er]; rfl
      rw [this, List.append_nil, List.append_assoc]
    have lo := ft_loop (R := rest) g nd hs ha ha2
    unfold runFA
    rw [eΓ]
    have e0 : ∀ T, ftE sg b0 b1 T [d0N] 0 = .dat (tD sg) :: .dat (ndD (0, false)) :: b0.fn :: b1.fn :: .own none (.lst [ndD (0, false)]) :: .own none (.lst [tD []]) :: .dat (.int 0) :: .un :: .un :: T := fun _ => rfl
    rw [e0] at lo
    rcases lo with ⟨t, e, Γ', lo⟩ | ⟨e, n, lo⟩
    · rw [e]
      unfold oTD
      simp_all! only [↓turnF_ap, kF1_ap, ↓turnC_ap, ↓kC1_ap, ↓kC2_ap, ↓kC3_ap, ↓turnN_ap, ↓kN1_ap, ↓kN2_ap, ↓kN3_ap, ↓bodyN_nil, ↓bodyN_cons, ↓kBN_ap, ↓kBC_ap, ↓bodyD_ap, ↓kBD1_ap, ↓kBD2_ap, goes_nx, goes_ct, tc_if, tn_if, fc_Machine_signs, fp_Machine_signs, fg_Machine_signs_0, fg_Machine_signs_1, fg_Machine_signs_2, fg_Machine_signs_3, fc_Machine_rows, fp_Machine_rows, fg_Machine_rows_1, fg_Machine_rows_2, fg_Machine_rows_3, fc_Machine_ends, fp_Machine_ends, fg_Machine_ends_2, fg_Machine_ends_3, fc_Machine_all_keys, fp_Machine_all_keys, fg_Machine_all_keys_3, fm_Machine_after, fm_Machine_far_keys, fm_Machine_keys_of, fm_Machine_read, ↓ifT_ap2, ↓kIfT_ap, ↓resV_ok, ↓d_first_text, lo]
    · rw [e]
      unfold oTD
      unfold ftE at lo
      simp_all! only [↓turnF_ap, kF1_ap, ↓turnC_ap, ↓kC1_ap, ↓kC2_ap, ↓kC3_ap, ↓turnN_ap, ↓kN1_ap, ↓kN2_ap, ↓kN3_ap, ↓bodyN_nil, ↓bodyN_cons, ↓kBN_ap, ↓kBC_ap, ↓bodyD_ap, ↓kBD1_ap, ↓kBD2_ap, goes_nx, goes_ct, tc_if, tn_if, fc_Machine_signs, fp_Machine_signs, fg_Machine_signs_0, fg_Machine_signs_1, fg_Machine_signs_2, fg_Machine_signs_3, fc_Machine_rows, fp_Machine_rows, fg_Machine_rows_1, fg_Machine_rows_2, fg_Machine_rows_3, fc_Machine_ends, fp_Machine_ends, fg_Machine_ends_2, fg_Machine_ends_3, fc_Machine_all_keys, fp_Machine_all_keys, fg_Machine_all_keys_3, fm_Machine_after, fm_Machine_far_keys, fm_Machine_keys_of, fm_Machine_read, ↓ifT_ap2, ↓kIfT_ap, ↓resV_ok, ↓d_first_text, lo]
end Nv
-- S_13h
-- classes: Machine
-- n105
namespace Nv
open PySem PySem.Spec PyProof.Rows L2
section
variable {sg : Tx} {rows : List (List Way)} {ends : List (List Tx)}
theorem way_of_ok (h : MtOk sg rows ends) (s c : Nat) (hs : s < rows.length) (hc : c ∈ sg) : f_way_of [.dat (mcD sg rows ends), .dat (.int (s : Nat)), .dat (cD c)] =
    .ok (.dat (.tup [.int ((wayAt sg rows s c).1 : Nat), .tup ((asc (wayAt sg rows s c).2).map tD)])) [.dat (mcD sg rows ends), .dat (.int (s : Nat)), .dat (cD c)] := by
  obtain ⟨r, r1, r2, r3, r4⟩ := wayAt_get hs h.row hc
  have f1 : gFld ("rows" : Str) [("Machine" : Str), ("Edits" : Str), ("Table" : Str), ("Reading" : Str)] (mcD sg rows ends) = some (.dat (.tup (rows.map rowO))) := rfl
  have f2 := mc_signs (sg := sg) (rows := rows) (ends := ends)
  have i1 := idxS_ok hc
  have x1 : (rows.map rowO)[s]? = some (.tup (r.map wayO)) := by rw [List.getElem?_map, r1]; rfl
  have x2 : (r.map wayO)[sg.idxOf c]? = some (.tup [.int ((wayAt sg rows s c).1 : Nat), .tup ((asc (wayAt sg rows s c).2).map tD)]) := by rw [List.getElem?_map, r3]; rfl
  simp_all! only [↓turnF_ap, kF1_ap, ↓turnC_ap, ↓kC1_ap, ↓kC2_ap, ↓kC3_ap, ↓turnN_ap, ↓kN1_ap, ↓kN2_ap, ↓kN3_ap, ↓bodyN_nil, ↓bodyN_cons, ↓kBN_ap, ↓kBC_ap, ↓bodyD_ap, ↓kBD1_ap, ↓kBD2_ap, goes_nx, goes_ct, tc_if, tn_if, fc_Machine_signs, fp_Machine_signs, fg_Machine_signs_0, fg_Machine_signs_1, fg_Machine_signs_2, fg_Machine_signs_3, fc_Machine_rows, fp_Machine_rows, fg_Machine_rows_1, fg_Machine_rows_2, fg_Machine_rows_3, fc_Machine_ends, fp_Machine_ends, fg_Machine_ends_2, fg_Machine_ends_3, fc_Machine_all_keys, fp_Machine_all_keys, fg_Machine_all_keys_3, fm_Machine_after, fm_Machine_far_keys, fm_Machine_keys_of, fm_Machine_read, ↓ifT_ap2, ↓kIfT_ap, ↓resV_ok, ↓u_way_of, ↓d_way_of, f1, f2, i1, x1, x2]
theorem goal_giving (h : MtOk sg rows ends) (k : Tx) (p : Nd) (c : Nat) (hp : p.1 < rows.length) (hc : c ∈ sg) :
    ∃ outs, runF 6 d_giving_goal_of [.dat (ndD p), .dat (cD c), .dat (tD k), .dat (mcD sg rows ends)] = .ok (.dat (ndD (goK sg rows (some k) p c))) outs := by
  have w := way_of_ok h p.1 c hp hc
  have nd : ndD p = .tup [.int (p.1 : Nat), .bl p.2] := rfl
  have q := in_tt k (asc (wayAt sg rows p.1 c).2)
  have ek : decide (k ∈ asc (wayAt sg rows p.1 c).2) = hkK (some k) (wayAt sg rows p.1 c).2 := hk_asc (some k) _
  rw [ek] at q
  have go : ndD (goK sg rows (some k) p c) = .tup [.int ((wayAt sg rows p.1 c).1 : Nat), .bl (p.2 || hkK (some k) (wayAt sg rows p.1 c).2)] := rfl
  refine ⟨[.dat (ndD p), .dat (cD c), .dat (tD k), .dat (mcD sg rows ends)], ?_⟩
  rw [nd, go]
  cases hb : p.2 with
  | true =>
    rw [Bool.true_or]
    simp_all! only [↓turnF_ap, kF1_ap, ↓turnC_ap, ↓kC1_ap, ↓kC2_ap, ↓kC3_ap, ↓turnN_ap, ↓kN1_ap, ↓kN2_ap, ↓kN3_ap, ↓bodyN_nil, ↓bodyN_cons, ↓kBN_ap, ↓kBC_ap, ↓bodyD_ap, ↓kBD1_ap, ↓kBD2_ap, goes_nx, goes_ct, tc_if, tn_if, fc_Machine_signs, fp_Machine_signs, fg_Machine_signs_0, fg_Machine_signs_1, fg_Machine_signs_2, fg_Machine_signs_3, fc_Machine_rows, fp_Machine_rows, fg_Machine_rows_1, fg_Machine_rows_2, fg_Machine_rows_3, fc_Machine_ends, fp_Machine_ends, fg_Machine_ends_2, fg_Machine_ends_3, fc_Machine_all_keys, fp_Machine_all_keys, fg_Machine_all_keys_3, fm_Machine_after, fm_Machine_far_keys, fm_Machine_keys_of, fm_Machine_read, ↓ifT_ap2, ↓kIfT_ap, ↓resV_ok, ↓d_giving_goal_of, w, q]
  | false =>
    rw [Bool.false_or]
    simp_all! only [↓turnF_ap, kF1_ap, ↓turnC_ap, ↓kC1_ap, ↓kC2_ap, ↓kC3_ap, ↓turnN_ap, ↓kN1_ap, ↓kN2_ap, ↓kN3_ap, ↓bodyN_nil, ↓bodyN_cons, ↓kBN_ap, ↓kBC_ap, ↓bodyD_ap, ↓kBD1_ap, ↓kBD2_ap, goes_nx, goes_ct, tc_if, tn_if, fc_Machine_signs, fp_Machine_signs, fg_Machine_signs_0, fg_Machine_signs_1, fg_Machine_signs_2, fg_Machine_signs_3, fc_Machine_rows, fp_Machine_rows, fg_Machine_rows_1, fg_Machine_rows_2, fg_Machine_rows_3, fc_Machine_ends, fp_Machine_ends, fg_Machine_ends_2, fg_Machine_ends_3, fc_Machine_all_keys, fp_Machine_all_keys, fg_Machine_all_keys_3, fm_Machine_after, fm_Machine_far_keys, fm_Machine_keys_of, fm_Machine_read, ↓ifT_ap2, ↓kIfT_ap, ↓resV_ok, ↓d_giving_goal_of, w, q]
theorem want_giving (h : MtOk sg rows ends) (k : Tx) (p : Nd) (hp : p.1 < rows.length) :
    ∃ outs, runF 3 (retS e_giving_l1) [.dat (ndD p), .dat (tD k), .dat (mcD sg rows ends)] = .ok (.dat (.bl (wK ends (some k) p))) outs := by
  have nd : ndD p = .tup [.int (p.1 : Nat), .bl p.2] := rfl
  obtain ⟨g1, g2⟩ := end_get (ends := ends) (i := p.1) (by rw [h.en]; exact hp)
  have f1 : gFld ("ends" : Str) [("Machine" : Str)] (mcD sg rows ends) = some (.dat (.tup (ends.map endO))) := rfl
  have x1 : (ends.map endO)[p.1]? = some (.tup ((asc (ends.getD p.1 [])).map tD)) := by rw [List.getElem?_map, g1]; rfl
  have q := in_tt k (asc (ends.getD p.1 []))
  have ek : decide (k ∈ asc (ends.getD p.1 [])) = hkK (some k) (ends.getD p.1 []) := hk_asc (some k) _
  rw [ek] at q
  have ew : wK ends (some k) p = (p.2 || hkK (some k) (ends.getD p.1 [])) := by
    show ((p.2 || hkK (some k) (ends.getD p.1 [])) == true) = _
    cases (p.2 || hkK (some k) (ends.getD p.1 [])) <;> rfl
  refine ⟨[.dat (ndD p), .dat (tD k), .dat (mcD sg rows ends)], ?_⟩
  rw [nd, ew]
  cases hb : p.2 with
  | true =>
    rw [Bool.true_or]
    simp_all! only [↓turnF_ap, kF1_ap, ↓turnC_ap, ↓kC1_ap, ↓kC2_ap, ↓kC3_ap, ↓turnN_ap, ↓kN1_ap, ↓kN2_ap, ↓kN3_ap, ↓bodyN_nil, ↓bodyN_cons, ↓kBN_ap, ↓kBC_ap, ↓bodyD_ap, ↓kBD1_ap, ↓kBD2_ap, goes_nx, goes_ct, tc_if, tn_if, fc_Machine_signs, fp_Machine_signs, fg_Machine_signs_0, fg_Machine_signs_1, fg_Machine_signs_2, fg_Machine_signs_3, fc_Machine_rows, fp_Machine_rows, fg_Machine_rows_1, fg_Machine_rows_2, fg_Machine_rows_3, fc_Machine_ends, fp_Machine_ends, fg_Machine_ends_2, fg_Machine_ends_3, fc_Machine_all_keys, fp_Machine_all_keys, fg_Machine_all_keys_3, fm_Machine_after, fm_Machine_far_keys, fm_Machine_keys_of, fm_Machine_read, ↓ifT_ap2, ↓kIfT_ap, ↓resV_ok, ↓e_giving_l1, f1, x1, q]
  | false =>
    rw [Bool.false_or]
    simp_all! only [↓turnF_ap, kF1_ap, ↓turnC_ap, ↓kC1_ap, ↓kC2_ap, ↓kC3_ap, ↓turnN_ap, ↓kN1_ap, ↓kN2_ap, ↓kN3_ap, ↓bodyN_nil, ↓bodyN_cons, ↓kBN_ap, ↓kBC_ap, ↓bodyD_ap, ↓kBD1_ap, ↓kBD2_ap, goes_nx, goes_ct, tc_if, tn_if, fc_Machine_signs, fp_Machine_signs, fg_Machine_signs_0, fg_Machine_signs_1, fg_Machine_signs_2, fg_Machine_signs_3, fc_Machine_rows, fp_Machine_rows, fg_Machine_rows_1, fg_Machine_rows_2, fg_Machine_rows_3, fc_Machine_ends, fp_Machine_ends, fg_Machine_ends_2, fg_Machine_ends_3, fc_Machine_all_keys, fp_Machine_all_keys, fg_Machine_all_keys_3, fm_Machine_after, fm_Machine_far_keys, fm_Machine_keys_of, fm_Machine_read, ↓ifT_ap2, ↓kIfT_ap, ↓resV_ok, ↓e_giving_l1, f1, x1, q]
theorem goal_silent (h : MtOk sg rows ends) (p : Nd) (c : Nat) (hp : p.1 < rows.length) (hc : c ∈ sg) :
    ∃ outs, runF 5 d_silent_goal_of [.dat (ndD p), .dat (cD c), .dat (mcD sg rows ends)] = .ok (.dat (ndD (goK sg rows none p c))) outs := by
  have w := way_of_ok h p.1 c hp hc
  have nd : ndD p = .tup [.int (p.1 : Nat), .bl p.2] := rfl
  have ek : decide (0 < (asc (wayAt sg rows p.1 c).2).length) = hkK none (wayAt sg rows p.1 c).2 := hk_asc none _
  have go : ndD (goK sg rows none p c) = .tup [.int ((wayAt sg rows p.1 c).1 : Nat), .bl (p.2 || hkK none (wayAt sg rows p.1 c).2)] := rfl
  refine ⟨[.dat (ndD p), .dat (cD c), .dat (mcD sg rows ends)], ?_⟩
  rw [nd, go, ← ek]
  cases hb : p.2 with
  | true =>
    rw [Bool.true_or]
    simp_all! only [↓turnF_ap, kF1_ap, ↓turnC_ap, ↓kC1_ap, ↓kC2_ap, ↓kC3_ap, ↓turnN_ap, ↓kN1_ap, ↓kN2_ap, ↓kN3_ap, ↓bodyN_nil, ↓bodyN_cons, ↓kBN_ap, ↓kBC_ap, ↓bodyD_ap, ↓kBD1_ap, ↓kBD2_ap, goes_nx, goes_ct, tc_if, tn_if, fc_Machine_signs, fp_Machine_signs, fg_Machine_signs_0, fg_Machine_signs_1, fg_Machine_signs_2, fg_Machine_signs_3, fc_Machine_rows, fp_Machine_rows, fg_Machine_rows_1, fg_Machine_rows_2, fg_Machine_rows_3, fc_Machine_ends, fp_Machine_ends, fg_Machine_ends_2, fg_Machine_ends_3, fc_Machine_all_keys, fp_Machine_all_keys, fg_Machine_all_keys_3, fm_Machine_after, fm_Machine_far_keys, fm_Machine_keys_of, fm_Machine_read, ↓ifT_ap2, ↓kIfT_ap, ↓resV_ok, ↓d_silent_goal_of, w]
  | false =>
    rw [Bool.false_or]
    by_cases hz : 0 < (asc (wayAt sg rows p.1 c).2).length
    · simp_all! only [↓turnF_ap, kF1_ap, ↓turnC_ap, ↓kC1_ap, ↓kC2_ap, ↓kC3_ap, ↓turnN_ap, ↓kN1_ap, ↓kN2_ap, ↓kN3_ap, ↓bodyN_nil, ↓bodyN_cons, ↓kBN_ap, ↓kBC_ap, ↓bodyD_ap, ↓kBD1_ap, ↓kBD2_ap, goes_nx, goes_ct, tc_if, tn_if, fc_Machine_signs, fp_Machine_signs, fg_Machine_signs_0, fg_Machine_signs_1, fg_Machine_signs_2, fg_Machine_signs_3, fc_Machine_rows, fp_Machine_rows, fg_Machine_rows_1, fg_Machine_rows_2, fg_Machine_rows_3, fc_Machine_ends, fp_Machine_ends, fg_Machine_ends_2, fg_Machine_ends_3, fc_Machine_all_keys, fp_Machine_all_keys, fg_Machine_all_keys_3, fm_Machine_after, fm_Machine_far_keys, fm_Machine_keys_of, fm_Machine_read, ↓ifT_ap2, ↓kIfT_ap, ↓resV_ok, ↓d_silent_goal_of, w, hz]
    · simp_all! only [↓turnF_ap, kF1_ap, ↓turnC_ap, ↓kC1_ap, ↓kC2_ap, ↓kC3_ap, ↓turnN_ap, ↓kN1_ap, ↓kN2_ap, ↓kN3_ap, ↓bodyN_nil, ↓bodyN_cons, ↓kBN_ap, ↓kBC_ap, ↓bodyD_ap, ↓kBD1_ap, ↓kBD2_ap, goes_nx, goes_ct, tc_if, tn_if, fc_Machine_signs, fp_Machine_signs, fg_Machine_signs_0, fg_Machine_signs_1, fg_Machine_signs_2, fg_Machine_signs_3, fc_Machine_rows, fp_Machine_rows, fg_Machine_rows_1, fg_Machine_rows_2, fg_Machine_rows_3, fc_Machine_ends, fp_Machine_ends, fg_Machine_ends_2, fg_Machine_ends_3, fc_Machine_all_keys, fp_Machine_all_keys, fg_Machine_all_keys_3, fm_Machine_after, fm_Machine_far_keys, fm_Machine_keys_of, fm_Machine_read, ↓ifT_ap2, ↓kIfT_ap, ↓resV_ok, ↓d_silent_goal_of, w, hz]
theorem want_silent (h : MtOk sg rows ends) (p : Nd) (hp : p.1 < rows.length) :
    ∃ outs, runF 2 (retS e_silent_l1) [.dat (ndD p), .dat (mcD sg rows ends)] = .ok (.dat (.bl (wK ends none p))) outs := by
  have nd : ndD p = .tup [.int (p.1 : Nat), .bl p.2] := rfl
  obtain ⟨g1, g2⟩ := end_get (ends := ends) (i := p.1) (by rw [h.en]; exact hp)
  have f1 : gFld ("ends" : Str) [("Machine" : Str)] (mcD sg rows ends) = some (.dat (.tup (ends.map endO))) := rfl
  have x1 : (ends.map endO)[p.1]? = some (.tup ((asc (ends.getD p.1 [])).map tD)) := by rw [List.getElem?_map, g1]; rfl
  have ek : decide (0 < (asc (ends.getD p.1 [])).length) = hkK none (ends.getD p.1 []) := hk_asc none _
  have ew : wK ends none p = ((p.2 || decide (0 < (asc (ends.getD p.1 [])).length)) == false) := by
    rw [ek]
    rfl
  refine ⟨[.dat (ndD p), .dat (mcD sg rows ends)], ?_⟩
  rw [nd, ew]
  cases hb : p.2 with
  | true =>
    rw [Bool.true_or]
    simp_all! only [↓turnF_ap, kF1_ap, ↓turnC_ap, ↓kC1_ap, ↓kC2_ap, ↓kC3_ap, ↓turnN_ap, ↓kN1_ap, ↓kN2_ap, ↓kN3_ap, ↓bodyN_nil, ↓bodyN_cons, ↓kBN_ap, ↓kBC_ap, ↓bodyD_ap, ↓kBD1_ap, ↓kBD2_ap, goes_nx, goes_ct, tc_if, tn_if, fc_Machine_signs, fp_Machine_signs, fg_Machine_signs_0, fg_Machine_signs_1, fg_Machine_signs_2, fg_Machine_signs_3, fc_Machine_rows, fp_Machine_rows, fg_Machine_rows_1, fg_Machine_rows_2, fg_Machine_rows_3, fc_Machine_ends, fp_Machine_ends, fg_Machine_ends_2, fg_Machine_ends_3, fc_Machine_all_keys, fp_Machine_all_keys, fg_Machine_all_keys_3, fm_Machine_after, fm_Machine_far_keys, fm_Machine_keys_of, fm_Machine_read, ↓ifT_ap2, ↓kIfT_ap, ↓resV_ok, ↓e_silent_l1, f1, x1]
    try rfl
  | false =>
    rw [Bool.false_or]
    by_cases hz : (asc (ends.getD p.1 [])).length = 0
    · have e : (decide (0 < (asc (ends.getD p.1 [])).length) == false) = true := by rw [hz]; rfl
      rw [e]
      simp_all! only [↓turnF_ap, kF1_ap, ↓turnC_ap, ↓kC1_ap, ↓kC2_ap, ↓kC3_ap, ↓turnN_ap, ↓kN1_ap, ↓kN2_ap, ↓kN3_ap, ↓bodyN_nil, ↓bodyN_cons, ↓kBN_ap, ↓kBC_ap, ↓bodyD_ap, ↓kBD1_ap, ↓kBD2_ap, goes_nx, goes_ct, tc_if, tn_if, fc_Machine_signs, fp_Machine_signs, fg_Machine_signs_0, fg_Machine_signs_1, fg_Machine_signs_2, fg_Machine_signs_3, fc_Machine_rows, fp_Machine_rows, fg_Machine_rows_1, fg_Machine_rows_2, fg_Machine_rows_3, fc_Machine_ends, fp_Machine_ends, fg_Machine_ends_2, fg_Machine_ends_3, fc_Machine_all_keys, fp_Machine_all_keys, fg_Machine_all_keys_3, fm_Machine_after, fm_Machine_far_keys, fm_Machine_keys_of, fm_Machine_read, ↓ifT_ap2, ↓kIfT_ap, ↓resV_ok, ↓e_silent_l1, f1, x1, hz]
    · have e : (decide (0 < (asc (ends.getD p.1 [])).length) == false) = false := by rw [decide_eq_true (by omega)]; rfl
      rw [e]
      simp_all! only [↓turnF_ap, kF1_ap, ↓turnC_ap, ↓kC1_ap, ↓kC2_ap, ↓kC3_ap, ↓turnN_ap, ↓kN1_ap, ↓kN2_ap, ↓kN3_ap, ↓bodyN_nil, ↓bodyN_cons, ↓kBN_ap, ↓kBC_ap, ↓bodyD_ap, ↓kBD1_ap, ↓kBD2_ap, goes_nx, goes_ct, tc_if, tn_if, fc_Machine_signs, fp_Machine_signs, fg_Machine_signs_0, fg_Machine_signs_1, fg_Machine_signs_2, fg_Machine_signs_3, fc_Machine_rows, fp_Machine_rows, fg_Machine_rows_1, fg_Machine_rows_2, fg_Machine_rows_3, fc_Machine_ends, fp_Machine_ends, fg_Machine_ends_2, fg_Machine_ends_3, fc_Machine_all_keys, fp_Machine_all_keys, fg_Machine_all_keys_3, fm_Machine_after, fm_Machine_far_keys, fm_Machine_keys_of, fm_Machine_read, ↓ifT_ap2, ↓kIfT_ap, ↓resV_ok, ↓e_silent_l1, f1, x1, hz]
end
end Nv
-- S_13i
-- classes: Machine
-- n105
namespace Nv
open PySem PySem.Spec PyProof.Rows L2
theorem callFO_ap {sp : List Sp3} {m : Nat} {Gf : SgF → List D → FR} {as : Ev → Rs (List OV)} {Γ : Ev} : callFO sp m Gf as Γ = (as Γ).bind (callFO1 sp m Gf) := rfl
theorem callFO1_is {sp : List Sp3} {m : Nat} {Gf : SgF → List D → FR} {os : List OV} {Γ : Ev} {ds : List D} {sg : SgF} {av : AV} {outs : Ev} (h1 : dats os = some ds) (h2 : capsG Γ sp = some sg) (h3 : ds.length + sg.length = m) (h4 : Gf sg ds = .ok av outs) : callFO1 sp m Gf os Γ = .ok av Γ := by
  unfold callFO1
  rw [h1, h2]
  dsimp only
  rw [if_pos h3, h4]
  rfl
section
variable {sg : Tx} {rows : List (List Way)} {ends : List (List Tx)}
theorem giving_ok (nd : sg.Nodup) (h : MtOk sg rows ends) (k : Tx) : f_giving [.dat (mcD sg rows ends), .dat (tD k)] = .ok (.dat (oTD (srN sg (goK sg rows (some k)) (wK ends (some k)) 80 0))) [.dat (mcD sg rows ends), .dat (tD k)] := by
  have first := first_ok (go := goK sg rows (some k)) (W := wK ends (some k)) (ds0 := [tD k, mcD sg rows ends]) (ds1 := [tD k, mcD sg rows ends]) (G0 := runF 6 d_giving_goal_of) (G1 := runF 3 (retS e_giving_l1)) nd h.s h.n0 h.n (by show 2 + 2 ≤ 8; omega)
    (fun p c hp hc => goal_giving h k p c hp hc) (fun p hp => want_giving h k p hp) (fun p c => goK_lt h p c)
  have f2 := mc_signs (sg := sg) (rows := rows) (ends := ends)
  have nf : d_giving [.dat (mcD sg rows ends), .dat (tD k), .un] = .rt (.dat (oTD (srN sg (goK sg rows (some k)) (wK ends (some k)) 80 0))) [.dat (mcD sg rows ends), .dat (tD k), .un] := by
    refine ndefS_is rfl fun f Fn => ?_
    have en : endF (andU (nameF 2 f Fn) (andU okU okU)) [.dat (mcD sg rows ends), .dat (tD k), .dat (.fnv f Fn none)] = .ok [] [.dat (mcD sg rows ends), .dat (tD k), .dat (.fnv f Fn none)] := by
      have hn : nameF 2 f Fn [.dat (mcD sg rows ends), .dat (tD k), .dat (.fnv f Fn none)] = .ok () [.dat (mcD sg rows ends), .dat (tD k), .dat (.fnv f Fn none)] := if_pos rfl
      unfold endF andU okU
      rw [hn]
      rfl
    have c1 := callFO1_is (sp := [(2, [1, 0], runF 6 d_giving_goal_of), (1, [1, 0], runF 3 (retS e_giving_l1))]) (m := 4) (Gf := f_first_text) (os := [OV.dat (tD sg), OV.dat (.tup [.int 0, .bl false])]) (Γ := [.dat (mcD sg rows ends), .dat (tD k), .dat (.fnv f Fn none)]) rfl rfl rfl first
    have rt : retS (callFO [(2, [1, 0], runF 6 d_giving_goal_of), (1, [1, 0], runF 3 (retS e_giving_l1))] 4 f_first_text (consA (datB (frzE (op1 (gFld ("signs" : Str) [("Machine" : Str), ("Rule" : Str), ("Edits" : Str), ("Table" : Str)]) (slotB 0)))) (consA (datB (frzE (tupE (consA (datB (cst (.int 0))) (consA (datB (cst (.bl false))) nilA))))) (endF (andU (nameF 2 f Fn) (andU okU okU))))))
        [.dat (mcD sg rows ends), .dat (tD k), .dat (.fnv f Fn none)] = .rt (.dat (oTD (srN sg (goK sg rows (some k)) (wK ends (some k)) 80 0))) [.dat (mcD sg rows ends), .dat (tD k), .dat (.fnv f Fn none)] := by
      simp_all! only [↓turnF_ap, kF1_ap, ↓turnC_ap, ↓kC1_ap, ↓kC2_ap, ↓kC3_ap, ↓turnN_ap, ↓kN1_ap, ↓kN2_ap, ↓kN3_ap, ↓bodyN_nil, ↓bodyN_cons, ↓kBN_ap, ↓kBC_ap, ↓bodyD_ap, ↓kBD1_ap, ↓kBD2_ap, goes_nx, goes_ct, tc_if, tn_if, fc_Machine_signs, fp_Machine_signs, fg_Machine_signs_0, fg_Machine_signs_1, fg_Machine_signs_2, fg_Machine_signs_3, fc_Machine_rows, fp_Machine_rows, fg_Machine_rows_1, fg_Machine_rows_2, fg_Machine_rows_3, fc_Machine_ends, fp_Machine_ends, fg_Machine_ends_2, fg_Machine_ends_3, fc_Machine_all_keys, fp_Machine_all_keys, fg_Machine_all_keys_3, fm_Machine_after, fm_Machine_far_keys, fm_Machine_keys_of, fm_Machine_read, ↓ifT_ap2, ↓kIfT_ap, ↓resV_ok, ↓callFO_ap, f2, ↓en, ↓c1]
    show (retS _ [.dat (mcD sg rows ends), .dat (tD k), .dat (.fnv f Fn none)]).unI 2 = _
    rw [rt]
    rfl
  rw [u_giving]
  show (match d_giving [.dat (mcD sg rows ends), .dat (tD k), .un] with
    | .nx Γ => FR.mk (.dat .non) (outA 0 [.dat (mcD sg rows ends), .dat (tD k)] Γ)
    | .rt av Γ => FR.mk av (outA 0 [.dat (mcD sg rows ends), .dat (tD k)] Γ)
    | .ex n l Γ => FR.mkx n l (outA 0 [.dat (mcD sg rows ends), .dat (tD k)] Γ)
    | _ => .bad) = _
  rw [nf]
  rfl
theorem silent_ok (nd : sg.Nodup) (h : MtOk sg rows ends) : f_silent [.dat (mcD sg rows ends)] = .ok (.dat (oTD (srN sg (goK sg rows none) (wK ends none) 80 0))) [.dat (mcD sg rows ends)] := by
  have first := first_ok (go := goK sg rows none) (W := wK ends none) (ds0 := [mcD sg rows ends]) (ds1 := [mcD sg rows ends]) (G0 := runF 5 d_silent_goal_of) (G1 := runF 2 (retS e_silent_l1)) nd h.s h.n0 h.n (by show 1 + 1 ≤ 8; omega)
    (fun p c hp hc => goal_silent h p c hp hc) (fun p hp => want_silent h p hp) (fun p c => goK_lt h p c)
  have f2 := mc_signs (sg := sg) (rows := rows) (ends := ends)
  have nf : d_silent [.dat (mcD sg rows ends), .un] = .rt (.dat (oTD (srN sg (goK sg rows none) (wK ends none) 80 0))) [.dat (mcD sg rows ends), .un] := by
    refine ndefS_is rfl fun f Fn => ?_
    have en : endF (andU (nameF 1 f Fn) (andU okU okU)) [.dat (mcD sg rows ends), .dat (.fnv f Fn none)] = .ok [] [.dat (mcD sg rows ends), .dat (.fnv f Fn none)] := by
      have hn : nameF 1 f Fn [.dat (mcD sg rows ends), .dat (.fnv f Fn none)] = .ok () [.dat (mcD sg rows ends), .dat (.fnv f Fn none)] := if_pos rfl
      unfold endF andU okU
      rw [hn]
      rfl
    have c1 := callFO1_is (sp := [(2, [0], runF 5 d_silent_goal_of), (1, [0], runF 2 (retS e_silent_l1))]) (m := 4) (Gf := f_first_text) (os := [OV.dat (tD sg), OV.dat (.tup [.int 0, .bl false])]) (Γ := [.dat (mcD sg rows ends), .dat (.fnv f Fn none)]) rfl rfl rfl first
    have rt : retS (callFO [(2, [0], runF 5 d_silent_goal_of), (1, [0], runF 2 (retS e_silent_l1))] 4 f_first_text (consA (datB (frzE (op1 (gFld ("signs" : Str) [("Machine" : Str), ("Rule" : Str), ("Edits" : Str), ("Table" : Str)]) (slotB 0)))) (consA (datB (frzE (tupE (consA (datB (cst (.int 0))) (consA (datB (cst (.bl false))) nilA))))) (endF (andU (nameF 1 f Fn) (andU okU okU))))))
        [.dat (mcD sg rows ends), .dat (.fnv f Fn none)] = .rt (.dat (oTD (srN sg (goK sg rows none) (wK ends none) 80 0))) [.dat (mcD sg rows ends), .dat (.fnv f Fn none)] := by
      simp_all! only [↓turnF_ap, kF1_ap, ↓turnC_ap, ↓kC1_ap, ↓kC2_ap, ↓kC3_ap, ↓turnN_ap, ↓kN1_ap, ↓kN2_ap, ↓kN3_ap, ↓bodyN_nil, ↓bodyN_cons, ↓kBN_ap, ↓kBC_ap, ↓bodyD_ap, ↓kBD1_ap, ↓kBD2_ap, goes_nx, goes_ct, tc_if, tn_if, fc_Machine_signs, fp_Machine_signs, fg_Machine_signs_0, fg_Machine_signs_1, fg_Machine_signs_2, fg_Machine_signs_3, fc_Machine_rows, fp_Machine_rows, fg_Machine_rows_1, fg_Machine_rows_2, fg_Machine_rows_3, fc_Machine_ends, fp_Machine_ends, fg_Machine_ends_2, fg_Machine_ends_3, fc_Machine_all_keys, fp_Machine_all_keys, fg_Machine_all_keys_3, fm_Machine_after, fm_Machine_far_keys, fm_Machine_keys_of, fm_Machine_read, ↓ifT_ap2, ↓kIfT_ap, ↓resV_ok, ↓callFO_ap, f2, ↓en, ↓c1]
    show (retS _ [.dat (mcD sg rows ends), .dat (.fnv f Fn none)]).unI 1 = _
    rw [rt]
    rfl
  rw [u_silent]
  show (match d_silent [.dat (mcD sg rows ends), .un] with
    | .nx Γ => FR.mk (.dat .non) (outA 0 [.dat (mcD sg rows ends)] Γ)
    | .rt av Γ => FR.mk av (outA 0 [.dat (mcD sg rows ends)] Γ)
    | .ex n l Γ => FR.mkx n l (outA 0 [.dat (mcD sg rows ends)] Γ)
    | _ => .bad) = _
  rw [nf]
  rfl
end
end Nv
-- S_13j
-- classes: Machine
-- n105
namespace Nv
open PySem PySem.Spec PyProof.Rows L2
def ws4 : List Tx := [[120], [121], [122], [48]]
def xW (w : Way) : Way := (w.1, asc (w.2 ++ [[120]]))
def xM (m : Mt) : Mt := (m.1.map fun r => r.map xW, m.2)
theorem asc_x {l : List Tx} (h : ∀ k ∈ l, k ∈ ws4) : (∀ k ∈ asc (l ++ [[120]]), k ∈ ws4) ∧ (asc (l ++ [[120]])).length ≤ 4 := by
  have hx : ∀ k ∈ l ++ [[120]], k ∈ ws4 := fun k hk => by
    rcases List.mem_append.mp hk with hk | hk
    · exact h k hk
    · rw [List.mem_singleton.mp hk]; decide
  exact ⟨fun k hk => hx k (asc_mem.mp hk), asc_le_w hx⟩
theorem mok_x {sg : Tx} {m : Mt} (h : MOk sg ws4 m) : MOk sg ws4 (xM m) := by
  obtain ⟨h1, h2, h3⟩ := h
  have inr : ∀ r ∈ (xM m).1, ∃ r0 ∈ m.1, r = r0.map xW := fun r hr => by
    obtain ⟨r0, a, rfl⟩ := List.mem_map.mp hr
    exact ⟨r0, a, rfl⟩
  have ll : (xM m).1.length = m.1.length := List.length_map _
  refine ⟨⟨fun r hr w hw => ?_, fun r hr => ?_, ?_, ?_, ?_, h1.s, fun r hr w hw => ?_, h1.el⟩, ⟨fun r hr w hw k hk => ?_, h2.en⟩, h3⟩
  · obtain ⟨r0, a, rfl⟩ := inr r hr
    obtain ⟨w0, b, rfl⟩ := List.mem_map.mp hw
    rw [ll]
    exact h1.go r0 a w0 b
  · obtain ⟨r0, a, rfl⟩ := inr r hr
    rw [List.length_map]
    exact h1.row r0 a
  · rw [ll]; exact h1.en
  · rw [ll]; exact h1.n0
  · rw [ll]; exact h1.n
  · obtain ⟨r0, a, rfl⟩ := inr r hr
    obtain ⟨w0, b, rfl⟩ := List.mem_map.mp hw
    have := (asc_x fun k hk => h2.way r0 a w0 b k hk).2
    show (asc (w0.2 ++ [[120]])).length ≤ 8
    omega
  · obtain ⟨r0, a, rfl⟩ := inr r hr
    obtain ⟨w0, b, rfl⟩ := List.mem_map.mp hw
    exact (asc_x fun k hk => h2.way r0 a w0 b k hk).1 k hk
theorem x_rowc (d0 d2 d3 d5 : D) (o1 o4 : O) (r : List Way) (hr : ∀ w ∈ r, ∀ k ∈ w.2, k ∈ ws4) (hk : ∀ w ∈ r, w.2.length ≤ 8) (hl : r.length ≤ 100) :
    compL [.dat d0, .own none o1, .dat d2, .dat d3, .own none o4, .dat d5, .dat (rwI false r), .un, .un, .un, .un, .un] (tTup (tsCons (tName 7) (tsCons (tName 8) tsNil))) yesT q_law_v24_1 (r.map (wyI false)) [] [.dat d0, .own none o1, .dat d2, .dat d3, .own none o4, .dat d5, .dat (rwI false r), .un, .un, .un, .un, .un] = some ((r.map xW).map (wyI false), [.dat d0, .own none o1, .dat d2, .dat d3, .own none o4, .dat d5, .dat (rwI false r), .un, .un, .un, .un, .un]) := by
  have q := compL_a (Γ0 := [.dat d0, .own none o1, .dat d2, .dat d3, .own none o4, .dat d5, .dat (rwI false r), .un, .un, .un, .un, .un]) (Γ := [.dat d0, .own none o1, .dat d2, .dat d3, .own none o4, .dat d5, .dat (rwI false r), .un, .un, .un, .un, .un]) (g := tTup (tsCons (tName 7) (tsCons (tName 8) tsNil))) (t := yesT) (fe := q_law_v24_1) (wyI false) (fun w => wyI false (xW w)) r (fun w hw => by
    have k1 := hk w hw
    have a1 := (asc_x (hr w hw)).2
    have g := gSset_S (l := w.2 ++ [[120]]) (by rw [List.length_append, List.length_singleton]; omega) (by omega)
    rw [List.map_append, List.map_cons, List.map_nil] at g
    have xs : D.str ("x" : Str) = tD [120] := rfl
    have ll : w.2.length ≤ 16777216 := by omega
    have l2 : w.2.length + 1 ≤ 16777216 := by omega
    simp_all! only [↓turnF_ap, kF1_ap, ↓turnC_ap, ↓kC1_ap, ↓kC2_ap, ↓kC3_ap, ↓turnN_ap, ↓kN1_ap, ↓kN2_ap, ↓kN3_ap, ↓bodyN_nil, ↓bodyN_cons, ↓kBN_ap, ↓kBC_ap, ↓bodyD_ap, ↓kBD1_ap, ↓kBD2_ap, goes_nx, goes_ct, tc_if, tn_if, fc_Machine_signs, fp_Machine_signs, fg_Machine_signs_0, fg_Machine_signs_1, fg_Machine_signs_2, fg_Machine_signs_3, fc_Machine_rows, fp_Machine_rows, fg_Machine_rows_1, fg_Machine_rows_2, fg_Machine_rows_3, fc_Machine_ends, fp_Machine_ends, fg_Machine_ends_2, fg_Machine_ends_3, fc_Machine_all_keys, fp_Machine_all_keys, fg_Machine_all_keys_3, fm_Machine_after, fm_Machine_far_keys, fm_Machine_keys_of, fm_Machine_read, ↓ifT_ap2, ↓kIfT_ap, ↓resV_ok, ↓q_law_v24_1, wyI, sq, xW, xs, ll, l2, g]) (by rw [sl_eq]; omega)
  rw [q, List.map_map]
  rfl
theorem x_rows (d0 d2 d3 d5 : D) (o1 o4 : O) (m : Mt) {sg : Tx} (h : MOk sg ws4 m) :
    compL [.dat d0, .own none o1, .dat d2, .dat d3, .own none o4, .dat d5, .un, .un, .un, .un, .un, .un] (tName 6) yesT q_law_v24_2 (m.1.map (rwI false)) [] [.dat d0, .own none o1, .dat d2, .dat d3, .own none o4, .dat d5, .un, .un, .un, .un, .un, .un] = some ((xM m).1.map (rwI false), [.dat d0, .own none o1, .dat d2, .dat d3, .own none o4, .dat d5, .un, .un, .un, .un, .un, .un]) := by
  have hn := h.h.n
  have q := compL_a (Γ0 := [.dat d0, .own none o1, .dat d2, .dat d3, .own none o4, .dat d5, .un, .un, .un, .un, .un, .un]) (Γ := [.dat d0, .own none o1, .dat d2, .dat d3, .own none o4, .dat d5, .un, .un, .un, .un, .un, .un]) (g := tName 6) (t := yesT) (fe := q_law_v24_2) (rwI false) (fun r => rwI false (r.map xW)) m.1 (fun r hr => by
    have l := h.h.row r hr
    have s := h.h.s
    have c := x_rowc d0 d2 d3 d5 o1 o4 r (fun w hw => h.w.way r hr w hw) (fun w hw => h.h.kn r hr w hw) (by omega)
    unfold rwI at c ⊢
    simp_all! only [↓turnF_ap, kF1_ap, ↓turnC_ap, ↓kC1_ap, ↓kC2_ap, ↓kC3_ap, ↓turnN_ap, ↓kN1_ap, ↓kN2_ap, ↓kN3_ap, ↓bodyN_nil, ↓bodyN_cons, ↓kBN_ap, ↓kBC_ap, ↓bodyD_ap, ↓kBD1_ap, ↓kBD2_ap, goes_nx, goes_ct, tc_if, tn_if, fc_Machine_signs, fp_Machine_signs, fg_Machine_signs_0, fg_Machine_signs_1, fg_Machine_signs_2, fg_Machine_signs_3, fc_Machine_rows, fp_Machine_rows, fg_Machine_rows_1, fg_Machine_rows_2, fg_Machine_rows_3, fc_Machine_ends, fp_Machine_ends, fg_Machine_ends_2, fg_Machine_ends_3, fc_Machine_all_keys, fp_Machine_all_keys, fg_Machine_all_keys_3, fm_Machine_after, fm_Machine_far_keys, fm_Machine_keys_of, fm_Machine_read, ↓ifT_ap2, ↓kIfT_ap, ↓resV_ok, ↓q_law_v24_2, c]) (by rw [sl_eq]; omega)
  rw [q]
  unfold xM
  rw [List.map_map]
  rfl
end Nv
-- S_13k
-- classes: Machine
-- n105
namespace Nv
open PySem PySem.Spec PyProof.Rows L2
def h13 (scr : D) (p : Pn) : Ev := [.dat scr, .own none p.o, .un, .un, .un, .un, .un, .un, .un, .un, .un, .un]
def g13 (scr n : D) (sg : Tx) (m : Mt) (p : Pn) (S10 : Slot) : Ev := [.dat scr, .own none p.o, .dat n, .dat (tD sg), .own none (.lst (ws4.map tD)), .dat (tabD m), .un, .un, .un, .dat (mcD sg m.1 m.2), S10, .un]
theorem ne_o (o : Option Tx) : gNe (oTD o) (oTD o) = some (.dat (.bl false)) := by
  cases o with
  | none => rfl
  | some t => exact gNe_S0
theorem key13 (scr n : D) {sg : Tx} {m : Mt} {words : List Tx} (nd : sg.Nodup) (s0 : 0 < sg.length) (h : MOk sg words m) (p : Pn) (k : Tx) (S10 : Slot) (hS : S10 = .un ∨ ∃ d, S10 = .dat d) :
    Goes (turnF (tName 11) b_law_v24_1 (tD k) (g13 scr n sg m p S10)) (g13 scr n sg m p .un) := by
  have g := giving_ok nd h.h k
  have hn := h.n
  have l : f__law_first [.dat (tD sg), .dat (tabD m), .dat (tD k)] = .ok (.dat (oTD (srN sg (goK sg m.1 (some k)) (wK m.2 (some k)) 80 0))) [.dat (tD sg), .dat (tabD m), .dat (tD k)] := lfirst_ok (κ := some k) nd h.h
  have a : f__law_are_first [.dat (tD sg), .dat (tabD m), .dat (oTD (srN sg (goK sg m.1 (some k)) (wK m.2 (some k)) 80 0)), .dat (tD k)] = .ok (.dat (.bl true)) [.dat (tD sg), .dat (tabD m), .dat (oTD (srN sg (goK sg m.1 (some k)) (wK m.2 (some k)) 80 0)), .dat (tD k)] := are_ok nd h.h h.w (by omega) s0 (some k)
  obtain ⟨o, eo⟩ : ∃ o, o = srN sg (goK sg m.1 (some k)) (wK m.2 (some k)) 80 0 := ⟨_, rfl⟩
  rw [← eo] at g l a
  have ne := ne_o o
  refine .inl ?_
  rcases hS with rfl | ⟨d, rfl⟩
  · simp_all! only [↓turnF_ap, kF1_ap, ↓turnC_ap, ↓kC1_ap, ↓kC2_ap, ↓kC3_ap, ↓turnN_ap, ↓kN1_ap, ↓kN2_ap, ↓kN3_ap, ↓bodyN_nil, ↓bodyN_cons, ↓kBN_ap, ↓kBC_ap, ↓bodyD_ap, ↓kBD1_ap, ↓kBD2_ap, goes_nx, goes_ct, tc_if, tn_if, fc_Machine_signs, fp_Machine_signs, fg_Machine_signs_0, fg_Machine_signs_1, fg_Machine_signs_2, fg_Machine_signs_3, fc_Machine_rows, fp_Machine_rows, fg_Machine_rows_1, fg_Machine_rows_2, fg_Machine_rows_3, fc_Machine_ends, fp_Machine_ends, fg_Machine_ends_2, fg_Machine_ends_3, fc_Machine_all_keys, fp_Machine_all_keys, fg_Machine_all_keys_3, fm_Machine_after, fm_Machine_far_keys, fm_Machine_keys_of, fm_Machine_read, ↓ifT_ap2, ↓kIfT_ap, ↓resV_ok, ↓b_law_v24_1, g13, g, l, a, ne]
  · simp_all! only [↓turnF_ap, kF1_ap, ↓turnC_ap, ↓kC1_ap, ↓kC2_ap, ↓kC3_ap, ↓turnN_ap, ↓kN1_ap, ↓kN2_ap, ↓kN3_ap, ↓bodyN_nil, ↓bodyN_cons, ↓kBN_ap, ↓kBC_ap, ↓bodyD_ap, ↓kBD1_ap, ↓kBD2_ap, goes_nx, goes_ct, tc_if, tn_if, fc_Machine_signs, fp_Machine_signs, fg_Machine_signs_0, fg_Machine_signs_1, fg_Machine_signs_2, fg_Machine_signs_3, fc_Machine_rows, fp_Machine_rows, fg_Machine_rows_1, fg_Machine_rows_2, fg_Machine_rows_3, fc_Machine_ends, fp_Machine_ends, fg_Machine_ends_2, fg_Machine_ends_3, fc_Machine_all_keys, fp_Machine_all_keys, fg_Machine_all_keys_3, fm_Machine_after, fm_Machine_far_keys, fm_Machine_keys_of, fm_Machine_read, ↓ifT_ap2, ↓kIfT_ap, ↓resV_ok, ↓b_law_v24_1, g13, g, l, a, ne]
def ws5 : List Tx := ws4 ++ [[115, 116, 114, 97, 110, 103, 101]]
theorem keys13 (scr n : D) {sg : Tx} {m : Mt} {words : List Tx} (nd : sg.Nodup) (s0 : 0 < sg.length) (h : MOk sg words m) (p : Pn) (d : D) :
    ∃ S10, (S10 = .un ∨ ∃ d, S10 = .dat d) ∧ forL (tName 11) b_law_v24_1 (ws5.map tD) (g13 scr n sg m p (.dat d)) = .nx (g13 scr n sg m p S10) := by
  obtain ⟨Γ', h1, S10, hS, e⟩ := forL_x (g := tName 11) (f := b_law_v24_1) tD (fun _ Γ => ∃ S10, (S10 = .un ∨ ∃ d, S10 = .dat d) ∧ Γ = g13 scr n sg m p S10) (fun x l Γ ⟨S10, hS, e⟩ => by
    subst e
    exact ⟨_, key13 scr n nd s0 h p x S10 hS, .un, .inl rfl, rfl⟩) ws5 _ ⟨_, .inr ⟨d, rfl⟩, rfl⟩
  subst e
  exact ⟨S10, hS, h1⟩
theorem lo13_turn (scr : D) (t k : Nat) (p : Pn) (h : PB p (k + 2000)) :
    ∃ Γ', Goes (turnF (tName 2) b_law_v24_2 (.int (0 + (t : Nat))) (h13 scr p)) Γ' ∧ ∃ p', Γ' = h13 scr p' ∧ PB p' k := by
  have hd := drawN_ok p 4 (by omega) (by omega) (h.mono (by omega)) 4 rfl
  have hlt := drawN_lt (p := p) (n := 4) (by omega)
  have b1 : PB (drawN p 4).2 (k + 1999) := drawN_pb h
  obtain ⟨c4, p1, e1⟩ : ∃ c p', drawN p 4 = (c, p') := ⟨_, _, rfl⟩
  rw [e1] at hd hlt b1
  dsimp only at hd hlt b1
  have hc : (1 : Int) + (c4 : Nat) = ((1 + c4 : Nat) : Int) := by omega
  have hsg := signs_ok p1 (1 + c4) (by omega) (b1.mono (by omega))
  have l2 := signs_len (p := p1) (n := 1 + c4) (by omega) (b1.mono (by omega))
  have nd := signs_nd (p := p1) (n := 1 + c4) (by omega) (b1.mono (by omega))
  have b2 : PB (signsF (1 + c4) p1).2 (k + 1990) := signs_pb (by omega) (b1.mono (by omega))
  obtain ⟨sg, p2, e2⟩ : ∃ c p', signsF (1 + c4) p1 = (c, p') := ⟨_, _, rfl⟩
  rw [e2] at hsg l2 b2 nd
  dsimp only at hsg l2 b2 nd
  rw [← hc] at hsg
  have s0 : 0 < sg.length := by omega
  have hs : sg.length ≤ 4 := by omega
  have hd5 := drawN_ok p2 4 (by omega) (by omega) (b2.mono (by omega)) 4 rfl
  have hlt5 := drawN_lt (p := p2) (n := 4) (by omega)
  have b3 : PB (drawN p2 4).2 (k + 1989) := drawN_pb b2
  obtain ⟨c5, p3, e5⟩ : ∃ c p', drawN p2 4 = (c, p') := ⟨_, _, rfl⟩
  rw [e5] at hd5 hlt5 b3
  dsimp only at hd5 hlt5 b3
  have hc5 : (1 : Int) + (c5 : Nat) = ((1 + c5 : Nat) : Int) := by omega
  obtain ⟨wt, ewt⟩ : ∃ wt, wt = ws4.take (1 + c5) := ⟨_, rfl⟩
  have wsub : ∀ x ∈ wt, x ∈ ws4 := fun x hx => by rw [ewt] at hx; exact List.mem_of_mem_take hx
  have wl : wt.length = 1 + c5 := by rw [ewt, List.length_take]; have : ws4.length = 4 := rfl; omega
  obtain ⟨mr, me, p4, htb, to, b4⟩ := tables_ok sg wt (by intro z; rw [z] at wl; simp at wl; omega) (by omega) (by omega) 16 (by omega) (by omega) p3 (k + 900) (b3.mono (by omega))
  have hm0 := tb_ok to hs (by omega) (by omega)
  obtain ⟨m, em⟩ : ∃ m : Mt, m = (mr, me) := ⟨_, rfl⟩
  have htb : f__law_tables [.own p3.o, .dat (tD sg), .dat (.int 16), .dat (.lst (wt.map tD))] = .ok (.dat (tabD m)) [.own (some 0) p4.o, .dat (tD sg), .dat (.int 16), .dat (.lst (wt.map tD))] := by rw [em]; exact htb
  rw [← em] at hm0
  have hm : MOk sg ws4 m := ⟨hm0.h, ⟨fun r hr w hw k hk => wsub k (hm0.w.way r hr w hw k hk), fun e he k hk => wsub k (hm0.w.en e he k hk)⟩, by decide⟩
  have hd7 := drawN_ok p4 2 (by omega) (by omega) (b4.mono (by omega)) 2 rfl
  have hlt7 := drawN_lt (p := p4) (n := 2) (by omega)
  have b5 : PB (drawN p4 2).2 (k + 899) := drawN_pb b4
  obtain ⟨c7, p5, e7⟩ : ∃ c p', drawN p4 2 = (c, p') := ⟨_, _, rfl⟩
  rw [e7] at hd7 hlt7 b5
  dsimp only at hd7 hlt7 b5
  have ws : D.lst [.str ("x" : Str), .str ("y" : Str), .str ("z" : Str), .str ("0" : Str)] = .lst (ws4.map tD) := rfl
  have wo : O.lst [.str ("x" : Str), .str ("y" : Str), .str ("z" : Str), .str ("0" : Str)] = .lst (ws4.map tD) := rfl
  have ix0 : ∀ m : Mt, gIx (tabD m) (.int 0) = some (.dat (rwsI false m.1)) := fun _ => rfl
  have ix1 : ∀ m : Mt, gIx (tabD m) (.int 1) = some (.dat (ensI false false m.2)) := fun _ => rfl
  have hx := x_rows scr (.int (t : Nat)) (tD sg) (tabD m) p5.o (.lst (ws4.map tD)) m hm
  have tk : List.take (1 + c5) (ws4.map tD) = wt.map tD := by rw [ewt, List.map_take]
  have all : ∀ m' : Mt, MOk sg ws4 m' → (∀ Γ, makeR ("Machine" : Str) f_Machine_init_v1 [.dat (tD sg), .dat (rwsI false m'.1), .dat (ensI false false m'.2)] Γ = .ok (.own (mcO sg m'.1 m'.2)) Γ) ∧ ∃ o S10, (S10 = .un ∨ ∃ d, S10 = .dat d) ∧ f_silent [.dat (mcD sg m'.1 m'.2)] = .ok (.dat (oTD o)) [.dat (mcD sg m'.1 m'.2)] ∧
      f__law_first [.dat (tD sg), .dat (tabD m'), .dat .non] = .ok (.dat (oTD o)) [.dat (tD sg), .dat (tabD m'), .dat .non] ∧
      f__law_are_first [.dat (tD sg), .dat (tabD m'), .dat (oTD o), .dat .non] = .ok (.dat (.bl true)) [.dat (tD sg), .dat (tabD m'), .dat (oTD o), .dat .non] ∧
      forL (tName 11) b_law_v24_1 (ws5.map tD) (g13 scr (.int (t : Nat)) sg m' p5 (.dat (oTD o))) = .nx (g13 scr (.int (t : Nat)) sg m' p5 S10) := fun m' h' => by
    obtain ⟨S10, hS, lo⟩ := keys13 scr (.int (t : Nat)) nd s0 h' p5 (oTD (srN sg (goK sg m'.1 none) (wK m'.2 none) 80 0))
    exact ⟨made_m h', _, S10, hS, silent_ok nd h'.h, lfirst_ok (κ := none) nd h'.h, are_ok nd h'.h h'.w (by decide) s0 none, lo⟩
  have cL : (ws4.length + 1 ≤ 16777216) = True := eq_true (by decide)
  have w5 : ws4.map tD ++ [D.str ("strange" : Str)] = ws5.map tD := rfl
  have o1 : ∀ a b, (mcO sg a b).d = mcD sg a b := fun _ _ => rfl
  refine ⟨h13 scr p5, .inl ?_, p5, rfl, b5.mono (by omega)⟩
  by_cases hz : c7 = 0
  · subst hz
    obtain ⟨mk, o, S10, hS, si, lf, ar, lo⟩ := all (xM m) (mok_x hm)
    have ne := ne_o o
    have i0 : gIx (tabD m) (.int 0) = some (.dat (.lst (m.1.map (rwI false)))) := rfl
    have i1 : gIx (tabD m) (.int 1) = some (.dat (ensI false false m.2)) := rfl
    have j0 : gIx (tabD (xM m)) (.int 0) = some (.dat (rwsI false (xM m).1)) := rfl
    have j1 : gIx (tabD (xM m)) (.int 1) = some (.dat (ensI false false (xM m).2)) := rfl
    have tx : D.tup [D.lst ((xM m).1.map (rwI false)), ensI false false m.2] = tabD (xM m) := rfl
    unfold g13 at lo
    rcases hS with rfl | ⟨d, rfl⟩
    · simp_all! only [↓turnF_ap, kF1_ap, ↓turnC_ap, ↓kC1_ap, ↓kC2_ap, ↓kC3_ap, ↓turnN_ap, ↓kN1_ap, ↓kN2_ap, ↓kN3_ap, ↓bodyN_nil, ↓bodyN_cons, ↓kBN_ap, ↓kBC_ap, ↓bodyD_ap, ↓kBD1_ap, ↓kBD2_ap, goes_nx, goes_ct, tc_if, tn_if, fc_Machine_signs, fp_Machine_signs, fg_Machine_signs_0, fg_Machine_signs_1, fg_Machine_signs_2, fg_Machine_signs_3, fc_Machine_rows, fp_Machine_rows, fg_Machine_rows_1, fg_Machine_rows_2, fg_Machine_rows_3, fc_Machine_ends, fp_Machine_ends, fg_Machine_ends_2, fg_Machine_ends_3, fc_Machine_all_keys, fp_Machine_all_keys, fg_Machine_all_keys_3, fm_Machine_after, fm_Machine_far_keys, fm_Machine_keys_of, fm_Machine_read, ↓ifT_ap2, ↓kIfT_ap, ↓resV_ok, ↓b_law_v24_2, h13, hd, hsg, ws, wo, hd5, tk, htb, hd7, i0, i1, hx, tx, j0, j1, mk, ↓o1, si, ne, lf, ar, cL, w5, lo]
    · simp_all! only [↓turnF_ap, kF1_ap, ↓turnC_ap, ↓kC1_ap, ↓kC2_ap, ↓kC3_ap, ↓turnN_ap, ↓kN1_ap, ↓kN2_ap, ↓kN3_ap, ↓bodyN_nil, ↓bodyN_cons, ↓kBN_ap, ↓kBC_ap, ↓bodyD_ap, ↓kBD1_ap, ↓kBD2_ap, goes_nx, goes_ct, tc_if, tn_if, fc_Machine_signs, fp_Machine_signs, fg_Machine_signs_0, fg_Machine_signs_1, fg_Machine_signs_2, fg_Machine_signs_3, fc_Machine_rows, fp_Machine_rows, fg_Machine_rows_1, fg_Machine_rows_2, fg_Machine_rows_3, fc_Machine_ends, fp_Machine_ends, fg_Machine_ends_2, fg_Machine_ends_3, fc_Machine_all_keys, fp_Machine_all_keys, fg_Machine_all_keys_3, fm_Machine_after, fm_Machine_far_keys, fm_Machine_keys_of, fm_Machine_read, ↓ifT_ap2, ↓kIfT_ap, ↓resV_ok, ↓b_law_v24_2, h13, hd, hsg, ws, wo, hd5, tk, htb, hd7, i0, i1, hx, tx, j0, j1, mk, ↓o1, si, ne, lf, ar, cL, w5, lo]
  · obtain ⟨mk, o, S10, hS, si, lf, ar, lo⟩ := all m hm
    have ne := ne_o o
    unfold g13 at lo
    rcases hS with rfl | ⟨d, rfl⟩
    · simp_all! only [↓turnF_ap, kF1_ap, ↓turnC_ap, ↓kC1_ap, ↓kC2_ap, ↓kC3_ap, ↓turnN_ap, ↓kN1_ap, ↓kN2_ap, ↓kN3_ap, ↓bodyN_nil, ↓bodyN_cons, ↓kBN_ap, ↓kBC_ap, ↓bodyD_ap, ↓kBD1_ap, ↓kBD2_ap, goes_nx, goes_ct, tc_if, tn_if, fc_Machine_signs, fp_Machine_signs, fg_Machine_signs_0, fg_Machine_signs_1, fg_Machine_signs_2, fg_Machine_signs_3, fc_Machine_rows, fp_Machine_rows, fg_Machine_rows_1, fg_Machine_rows_2, fg_Machine_rows_3, fc_Machine_ends, fp_Machine_ends, fg_Machine_ends_2, fg_Machine_ends_3, fc_Machine_all_keys, fp_Machine_all_keys, fg_Machine_all_keys_3, fm_Machine_after, fm_Machine_far_keys, fm_Machine_keys_of, fm_Machine_read, ↓ifT_ap2, ↓kIfT_ap, ↓resV_ok, ↓b_law_v24_2, h13, hd, hsg, ws, wo, hd5, tk, htb, hd7, hz, ix0, ix1, mk, ↓o1, si, ne, lf, ar, cL, w5, lo]
    · simp_all! only [↓turnF_ap, kF1_ap, ↓turnC_ap, ↓kC1_ap, ↓kC2_ap, ↓kC3_ap, ↓turnN_ap, ↓kN1_ap, ↓kN2_ap, ↓kN3_ap, ↓bodyN_nil, ↓bodyN_cons, ↓kBN_ap, ↓kBC_ap, ↓bodyD_ap, ↓kBD1_ap, ↓kBD2_ap, goes_nx, goes_ct, tc_if, tn_if, fc_Machine_signs, fp_Machine_signs, fg_Machine_signs_0, fg_Machine_signs_1, fg_Machine_signs_2, fg_Machine_signs_3, fc_Machine_rows, fp_Machine_rows, fg_Machine_rows_1, fg_Machine_rows_2, fg_Machine_rows_3, fc_Machine_ends, fp_Machine_ends, fg_Machine_ends_2, fg_Machine_ends_3, fc_Machine_all_keys, fp_Machine_all_keys, fg_Machine_all_keys_3, fm_Machine_after, fm_Machine_far_keys, fm_Machine_keys_of, fm_Machine_read, ↓ifT_ap2, ↓kIfT_ap, ↓resV_ok, ↓b_law_v24_2, h13, hd, hsg, ws, wo, hd5, tk, htb, hd7, hz, ix0, ix1, mk, ↓o1, si, ne, lf, ar, cL, w5, lo]
end Nv
-- M_k13
namespace Nv
open PySem PySem.Spec PyProof.Rows L2
theorem lo13_loop (scr : D) (n k : Nat) (p : Pn) (h : PB p (k + 2000 * n)) :
    ∃ p', forL (tName 2) b_law_v24_2 (rangeD 0 n) (h13 scr p) = .nx (h13 scr p') ∧ PB p' k := by
  obtain ⟨Γ', h1, p', e, h2⟩ := forL_x (g := tName 2) (f := b_law_v24_2) (fun i : Nat => .int (0 + (i : Nat)))
    (fun l Γ => ∃ p, Γ = h13 scr p ∧ PB p (k + 2000 * l.length))
    (fun x xs Γ hR => by
      obtain ⟨p, e, h⟩ := hR
      subst e
      rw [List.length_cons] at h
      obtain ⟨Γ', h1, p', h2, h3⟩ := lo13_turn scr x (k + 2000 * xs.length) p (h.mono (by omega))
      exact ⟨Γ', h1, p', h2, h3⟩) (List.range n) _ ⟨p, rfl, by rw [List.length_range]; exact h⟩
  subst e
  exact ⟨p', h1, h2⟩
theorem k13_true : ∀ ns : List Int, ns.length ≤ 63 → ∃ outs, f_law_v24 [.dat (.fz (ns.map D.int))] = .ok (.dat (.bl true)) outs := by
  intro ns hn
  obtain ⟨m, hm, _, em⟩ := min_k 6 ns.length
  have e3 : (((6 : Nat)) : Int) = 6 := rfl
  rw [e3] at em
  have hp := pen_ok ns
  have pb : PB (({ cells := ns.take 63, at_ := 0, left := 0 } : Pn)) (0 + 2000 * (5 + m)) := ⟨by show (0 : Int) ≤ 0; omega, by show (0 : Int) + _ < 2 ^ 64; omega⟩
  obtain ⟨p', hl, _⟩ := lo13_loop (.fz (ns.map D.int)) (5 + m) 0 _ pb
  unfold h13 at hl
  refine ⟨[.dat (.fz (ns.map D.int))], ?_⟩
  simp_all! only [↓u_law_v24, ↓d_law_v24, hp, em, hl]
end Nv
theorem K13.law_true : ∀ ns : List Int, ns.length ≤ 63 → ∃ outs, Nv.f_law_v24 [.dat (.fz (ns.map Nv.D.int))] = .ok (.dat (.bl true)) outs := Nv.k13_true
end
-- F_k13
namespace K13
open PySem PySem.Spec PyProof.Rows L2 Nv
theorem facts {l0 : PySem.W.OpenLaw} (e0 : l0 = PySem.Challenge.rw_nevermiss_k13_first_texts) {w : World} {K : Fr} {h : Heap} {mg : Str → Option Value} {fx : Addr} (X : K.In h) (G : h.Ns mainGlobals mg) (hmg : mg "law" = some (.ref fx)) (cb : (fa K).all id = true) (cv : fn K = vl) (ct : ∀ a ∈ tbs, h.get? a = some { cls := .none, data := .fields #[] }) :
    ∃ cs, TabS0 K mg h cs ∧
    ∃ fd : FuncData, (∀ (s : Shared) (v : Value), BindsTo s fd ⟨[v], []⟩ [("script", v)]) ∧ ∀ base : Heap, K.In base → base.Ns mainGlobals mg → (∀ p ∈ cs, LamX.TabB base mg p.1 p.2) → FnOk l0.prog w K mg base (L2.CX l0.prog w) 6 fx fd ["script"] (spD ⟨K, mg⟩ 1 f_law_v24) := by
  subst e0
  have v : ∀ (i : Nat) {a b : FV}, (fn K)[i]? = some a → vl[i]? = some b → a = b := fun i {a b} h1 h2 => fn_at cv i h1 h2
  have c0 : ∀ (i : Nat) {b : Bool}, (fa0 K)[i]? = some b → b = true := fun i {b} h => fact_at (fact_at cb 0 rfl) i h
  have c1 : ∀ (i : Nat) {b : Bool}, (fa1 K)[i]? = some b → b = true := fun i {b} h => fact_at (fact_at cb 1 rfl) i h
  have c2 : ∀ (i : Nat) {b : Bool}, (fa2 K)[i]? = some b → b = true := fun i {b} h => fact_at (fact_at cb 2 rfl) i h
  have c3 : ∀ (i : Nat) {b : Bool}, (fa3 K)[i]? = some b → b = true := fun i {b} h => fact_at (fact_at cb 3 rfl) i h
  have c4 : ∀ (i : Nat) {b : Bool}, (fa4 K)[i]? = some b → b = true := fun i {b} h => fact_at (fact_at cb 4 rfl) i h
  have c5 : ∀ (i : Nat) {b : Bool}, (fa5 K)[i]? = some b → b = true := fun i {b} h => fact_at (fact_at cb 5 rfl) i h
  have c6 : ∀ (i : Nat) {b : Bool}, (fa6 K)[i]? = some b → b = true := fun i {b} h => fact_at (fact_at cb 6 rfl) i h
  obtain ⟨_, _, _, _, _, _, _, _, _, l_law_pen, c_law_pen⟩ := fn_get (st := K13.s__law_pen) (v 0 rfl rfl) (c0 0 rfl)
  obtain ⟨_, _, _, _, _, _, _, _, _, l_law_draw, c_law_draw⟩ := fn_get (st := K13.s__law_draw) (v 1 rfl rfl) (c0 1 rfl)
  obtain ⟨_, _, _, _, _, _, _, _, _, l_law_signs, c_law_signs⟩ := fn_get (st := K13.s__law_signs) (v 2 rfl rfl) (c0 2 rfl)
  obtain ⟨_, _, _, _, _, _, _, _, _, l_law_pick, c_law_pick⟩ := fn_get (st := K13.s__law_pick) (v 3 rfl rfl) (c0 3 rfl)
  obtain ⟨_, _, _, _, _, _, _, _, _, l_law_keys, c_law_keys⟩ := fn_get (st := K13.s__law_keys) (v 4 rfl rfl) (c0 4 rfl)
  obtain ⟨_, _, _, _, _, _, _, _, _, l_law_tables, c_law_tables⟩ := fn_get (st := K13.s__law_tables) (v 5 rfl rfl) (c0 5 rfl)
  obtain ⟨_, _, _, _, _, _, _, _, _, lcheck_rows, ccheck_rows⟩ := fn_get (st := K13.s_check_rows) (v 6 rfl rfl) (c0 6 rfl)
  obtain ⟨_, _, _, _, _, _, _, _, _, lascending, cascending⟩ := fn_get (st := K13.s_ascending) (v 7 rfl rfl) (c0 7 rfl)
  obtain ⟨_, _, _, _, _, _, _, _, _, lkeys_in, ckeys_in⟩ := fn_get (st := K13.s_keys_in) (v 8 rfl rfl) (c0 8 rfl)
  obtain ⟨_, _, _, _, _, _, _, _, _, lMachine_init_v1, cMachine_init_v1⟩ := fn_get (st := K13.s_Machine_init_v1) (v 9 rfl rfl) (c0 9 rfl)
  obtain ⟨_, _, _, _, _, _, _, _, _, lway_of, cway_of⟩ := fn_get (st := K13.s_way_of) (v 10 rfl rfl) (c0 10 rfl)
  obtain ⟨_, _, _, _, _, _, _, _, _, lfirst_text, cfirst_text⟩ := fn_get (st := K13.s_first_text) (v 11 rfl rfl) (c0 11 rfl)
  obtain ⟨_, _, _, _, _, _, _, _, lsilent, csilent⟩ := fn_getC (st := K13.s_silent) (v 12 rfl rfl) (c0 12 rfl)
  obtain ⟨_, _, _, _, _, _, _, _, _, l_law_has, c_law_has⟩ := fn_get (st := K13.s__law_has) (v 13 rfl rfl) (c0 14 rfl)
  obtain ⟨_, _, _, _, _, _, _, _, _, l_law_first, c_law_first⟩ := fn_get (st := K13.s__law_first) (v 14 rfl rfl) (c0 15 rfl)
  obtain ⟨_, _, _, _, _, _, _, _, _, l_law_texts, c_law_texts⟩ := fn_get (st := K13.s__law_texts) (v 15 rfl rfl) (c0 16 rfl)
  obtain ⟨_, _, _, _, _, _, _, _, _, l_law_read_v2, c_law_read_v2⟩ := fn_get (st := K13.s__law_read_v2) (v 16 rfl rfl) (c0 17 rfl)
  obtain ⟨_, _, _, _, _, _, _, _, _, l_law_are_first, c_law_are_first⟩ := fn_get (st := K13.s__law_are_first) (v 17 rfl rfl) (c0 18 rfl)
  obtain ⟨_, _, _, _, _, _, _, _, lgiving, cgiving⟩ := fn_getC (st := K13.s_giving) (v 18 rfl rfl) (c0 19 rfl)
  obtain ⟨_, _, _, _, _, _, _, _, _, llaw_v24, claw_v24⟩ := fn_get (st := K13.s_law_v24) (v 19 rfl rfl) (c1 1 rfl)
  obtain ⟨_, _, _, _, _, _, _, _, _, _, lEBadMachine, cdEBadMachine, ⟨_, _, _, ccEBadMachine⟩, _, _, _, _, flEBadMachine, vsEBadMachine⟩ := fn_getE (st := K13.s_EBadMachine) (v 20 rfl rfl) (c1 2 rfl)
  obtain ⟨_, _, _, _, _, _, _, _, _, _, _, _, _, _, _, oCBadMachine, rCBadMachine⟩ := ex_get (c1 3 rfl)
  obtain ⟨_, cldBadMachine⟩ := cl_get (c1 4 rfl)
  obtain ⟨_, _, _, _, _, _, _, _, _, _, lETooMany, cdETooMany, ⟨_, _, _, ccETooMany⟩, _, _, _, _, flETooMany, vsETooMany⟩ := fn_getE (st := K13.s_ETooMany) (v 21 rfl rfl) (c1 5 rfl)
  obtain ⟨_, _, _, _, _, _, _, _, _, _, _, _, _, _, _, oCTooMany, rCTooMany⟩ := ex_get (c1 6 rfl)
  obtain ⟨_, cldTooMany⟩ := cl_get (c1 7 rfl)
  obtain ⟨_, g_MOST_KEYS⟩ := int_get (c1 8 rfl)
  refine ⟨([(cdAt K (He.ga K ("silent" : Str)), tPsilent), (cdAt K (He.ga K ("giving" : Str)), tPgiving)] : List (Addr × Addr)), ⟨(all_cons (ct _ List.mem_cons_self) (all_cons (ct _ (List.mem_cons_of_mem _ List.mem_cons_self)) all_nil)), (all_cons (Option.isNone_iff_eq_none.mp (c0 13 rfl)) (all_cons (Option.isNone_iff_eq_none.mp (c1 0 rfl)) all_nil)), (all_cons (PySem.W.codeHd_of_K X (fn_hd (c0 12 rfl))) (all_cons (PySem.W.codeHd_of_K X (fn_hd (c0 19 rfl))) all_nil)), fun p hp => ?_⟩, ?_⟩
  · have hp : p ∈ theTabs := hp
    simp only [theTabs, List.mem_cons, List.not_mem_nil, or_false] at hp
    rcases hp with rfl | rfl
    · exact ⟨_, List.mem_cons_self⟩
    · exact ⟨_, (List.mem_cons_of_mem _ List.mem_cons_self)⟩
  exact all_mk (l := PySem.Challenge.rw_nevermiss_k13_first_texts) X G hmg
    (of_decide_eq_true (c1 9 rfl))
    (of_decide_eq_true (c1 10 rfl))
    (of_decide_eq_true (c1 11 rfl))
    (of_decide_eq_true (c1 12 rfl))
    (of_decide_eq_true (c1 13 rfl))
    g_MOST_KEYS
    (of_decide_eq_true (c1 14 rfl))
    (of_decide_eq_true (c1 15 rfl))
    (of_decide_eq_true (c1 16 rfl))
    (of_decide_eq_true (c1 17 rfl))
    (of_decide_eq_true (c1 18 rfl))
    (of_decide_eq_true (c1 19 rfl))
    (of_decide_eq_true (c2 0 rfl))
    (of_decide_eq_true (c2 1 rfl))
    (of_decide_eq_true (c2 2 rfl))
    (of_decide_eq_true (c2 3 rfl))
    (of_decide_eq_true (c2 4 rfl))
    l_law_pen
    c_law_pen
    (c2 5 rfl)
    (of_decide_eq_true (c2 6 rfl))
    l_law_draw
    c_law_draw
    (c2 7 rfl)
    (of_decide_eq_true (c2 8 rfl))
    l_law_signs
    c_law_signs
    (c2 9 rfl)
    (of_decide_eq_true (c2 10 rfl))
    l_law_pick
    c_law_pick
    (c2 11 rfl)
    (of_decide_eq_true (c2 12 rfl))
    l_law_keys
    c_law_keys
    (c2 13 rfl)
    (of_decide_eq_true (c2 14 rfl))
    l_law_tables
    c_law_tables
    (c2 15 rfl)
    (of_decide_eq_true (c2 16 rfl))
    lcheck_rows
    ccheck_rows
    (c2 17 rfl)
    (of_decide_eq_true (c2 18 rfl))
    lascending
    cascending
    (c2 19 rfl)
    (of_decide_eq_true (c3 0 rfl))
    lkeys_in
    ckeys_in
    (c3 1 rfl)
    (of_decide_eq_true (c3 2 rfl))
    (c3 3 rfl)
    lMachine_init_v1
    cMachine_init_v1
    (c3 4 rfl)
    (of_decide_eq_true (c3 5 rfl))
    lway_of
    cway_of
    (c3 6 rfl)
    (of_decide_eq_true (c3 7 rfl))
    lfirst_text
    cfirst_text
    (c3 8 rfl)
    (of_decide_eq_true (c3 9 rfl))
    lsilent
    csilent
    (c3 10 rfl)
    (of_decide_eq_true (c3 11 rfl))
    l_law_has
    c_law_has
    (c3 12 rfl)
    (of_decide_eq_true (c3 13 rfl))
    l_law_first
    c_law_first
    (c3 14 rfl)
    (of_decide_eq_true (c3 15 rfl))
    l_law_texts
    c_law_texts
    (c3 16 rfl)
    (of_decide_eq_true (c3 17 rfl))
    l_law_read_v2
    c_law_read_v2
    (c3 18 rfl)
    (of_decide_eq_true (c3 19 rfl))
    l_law_are_first
    c_law_are_first
    (c4 0 rfl)
    (of_decide_eq_true (c4 1 rfl))
    lgiving
    cgiving
    (c4 2 rfl)
    (of_decide_eq_true (c4 3 rfl))
    llaw_v24
    claw_v24
    (c4 4 rfl)
    (of_decide_eq_true (c4 5 rfl))
    (of_decide_eq_true (c4 6 rfl))
    oCBadMachine
    rCBadMachine
    cldBadMachine
    (of_decide_eq_true (c4 7 rfl))
    (of_decide_eq_true (c4 8 rfl))
    (of_decide_eq_true (c4 9 rfl))
    (of_decide_eq_true (c4 10 rfl))
    (of_decide_eq_true (c4 11 rfl))
    (of_decide_eq_true (c4 12 rfl))
    (c4 13 rfl)
    (c4 14 rfl)
    (of_decide_eq_true (c4 15 rfl))
    (of_decide_eq_true (c4 16 rfl))
    (of_decide_eq_true (c4 17 rfl))
    (of_decide_eq_true (c4 18 rfl))
    (of_decide_eq_true (c4 19 rfl))
    lEBadMachine
    cdEBadMachine
    flEBadMachine
    vsEBadMachine
    ccEBadMachine
    (of_decide_eq_true (c5 0 rfl))
    (of_decide_eq_true (c5 1 rfl))
    (of_decide_eq_true (c5 2 rfl))
    oCTooMany
    rCTooMany
    cldTooMany
    (of_decide_eq_true (c5 3 rfl))
    (of_decide_eq_true (c5 4 rfl))
    (of_decide_eq_true (c5 5 rfl))
    (of_decide_eq_true (c5 6 rfl))
    (of_decide_eq_true (c5 7 rfl))
    (of_decide_eq_true (c5 8 rfl))
    (c5 9 rfl)
    (c5 10 rfl)
    (of_decide_eq_true (c5 11 rfl))
    (of_decide_eq_true (c5 12 rfl))
    (of_decide_eq_true (c5 13 rfl))
    (of_decide_eq_true (c5 14 rfl))
    (of_decide_eq_true (c5 15 rfl))
    lETooMany
    cdETooMany
    flETooMany
    vsETooMany
    ccETooMany
    (of_decide_eq_true (c5 16 rfl))
    (of_decide_eq_true (c5 17 rfl))
    (of_decide_eq_true (c5 18 rfl))
    (of_decide_eq_true (c5 19 rfl))
    (of_decide_eq_true (c6 0 rfl))
    (of_decide_eq_true (c6 1 rfl))
    (by decide +kernel)
    (of_decide_eq_true (c6 2 rfl))
    (of_decide_eq_true (c6 3 rfl))
    (c6 4 rfl)
    (c6 5 rfl)
    (c6 6 rfl)
    (of_decide_eq_true (c6 7 rfl))
    (c6 8 rfl)
    (c6 9 rfl)
    (of_decide_eq_true (c6 10 rfl))
    (of_decide_eq_true (c6 11 rfl))
    (of_decide_eq_true (c6 12 rfl))
    (of_decide_eq_true (c6 13 rfl))
end K13
open PySem PySem.W PySem.Calls PyProof.Rows in
set_option maxRecDepth 100000 in
set_option maxHeartbeats 0 in
theorem PySem.Challenge.cw_nevermiss_k13_first_texts_holds : PySem.Challenge.rw_nevermiss_k13_first_texts.Holds := by
  w_on; o_law
  refine HandSHeadRun.head_any (r := K13.RW) (q := K13.qv) (H := K13.hk) (ob := Nv.obT Nv.asM K13.fa K13.fn K13.tbs) (M := 20000) (loose := K13.names) (d := HandSHeadRun.topDef K13.RW.prog 45) (kwd := []) (fun s => Nv.obT_eq s)
    (by kernel_rfl) (fun s => by kernel_rfl) K13.run (by kernel_rfl) (by kernel_rfl) (by kernel_rfl) (by rfl) (by first | assumption | decide +kernel) (by decide +kernel) ⟨rfl, rfl, rfl, rfl, rfl, by decide +kernel⟩ ?hw ?hc
  case hw => w_witness2
  case hc =>
    refine Nv.end_ofE (lev := 6) (f := Nv.f_law_v24) K13.law_true rfl (by kernel_rfl) (by kernel_rfl) rfl ?F
    intro w mg fx h ⟨K, X, cb, cv, ct⟩ G hmg
    obtain ⟨cs, T0, fd, h1, h2⟩ := K13.facts rfl X G hmg cb cv ct
    exact ⟨K, cs, X, T0, fd, h1, h2⟩
