import PyProof.Rows.All
import Wide.All
import OpenK.AllK
import Wide.FinOn
import HandS.ForMost
import HandS.Exc
import HandS.WordsExc
import KE.KeyNested
import KE.KDictKeyed
import KE.KDictCopyH
import KE.LtData
import KE.SortData
import HandS.Deep
import HandS.IsInst
import HandS.TupAny
import HandS.TupLe
import HandS.Wide
import HandS.AnyAll
import HandS.Zip
import HandS.Flow
import HandS.Walk
import KE.GoesEnum
import KE.GoesMore
import HandS.More
import HandS.Small
import HandS.Zip0
import KE.KDictZip
import KE.KDictPairs
import HandS.Defaults
import HandS.Ends
import HandS.Codes
import HandS.HeadEnd
import HandS.Head0
import HandS.Head1
import HandS.Head2
import HandS.HeadHook1
import HandS.HeadHook2
import PySem.Challenge.RW_fairmasks_k01_whole_contents_and_boxes
set_option Elab.async false
set_option linter.all false
set_option maxRecDepth 100000
/-! ## part LA -/
section
namespace Fm
open PySem

/-- pure data -/
inductive D where
  | non | bl (b : Bool) | int (i : Int) | str (s : Str)
  | tup (xs : List D) | lst (xs : List D) | dct (kvs : List (D × D)) | obj (c : Nat) (fs : List (Nat × D))
  /-- the script that the law is handed -/
  | scr (ns : List Int)
  deriving Inhabited

namespace D
mutual
def beq : D → D → Bool
  | .non, .non => true
  | .bl a, .bl b => a == b
  | .int i, .int j => i == j
  | .str a, .str b => decide (a = b)
  | .tup a, .tup b => beqs a b
  | .lst a, .lst b => beqs a b
  | .dct a, .dct b => beqp a b
  | .obj c a, .obj e b => c == e && beqf a b
  | .scr a, .scr b => decide (a = b)
  | _, _ => false
termination_by structural x => x
def beqs : List D → List D → Bool
  | [], [] => true
  | a :: as, b :: bs => beq a b && beqs as bs
  | _, _ => false
termination_by structural x => x
def beqp : List (D × D) → List (D × D) → Bool
  | [], [] => true
  | p :: as, q :: bs => beqq p q && beqp as bs
  | _, _ => false
termination_by structural x => x
def beqq : D × D → D × D → Bool
  | (a, x), (b, y) => beq a b && beq x y
termination_by structural x => x
def beqf : List (Nat × D) → List (Nat × D) → Bool
  | [], [] => true
  | p :: as, q :: bs => beqg p q && beqf as bs
  | _, _ => false
termination_by structural x => x
def beqg : Nat × D → Nat × D → Bool
  | (a, x), (b, y) => a == b && beq x y
termination_by structural x => x
end
mutual
theorem beq_rfl : ∀ a : D, beq a a = true
  | .non => rfl
  | .bl a => by simp [beq]
  | .int a => by simp [beq]
  | .str a => by simp [beq]
  | .tup a => by rw [beq]; exact beqs_rfl a
  | .lst a => by rw [beq]; exact beqs_rfl a
  | .dct a => by rw [beq]; exact beqp_rfl a
  | .obj c a => by rw [beq, beqf_rfl a]; simp
  | .scr a => by simp [beq]
theorem beqs_rfl : ∀ a : List D, beqs a a = true
  | [] => rfl
  | a :: as => by rw [beqs, beq_rfl a, beqs_rfl as]; rfl
theorem beqp_rfl : ∀ a : List (D × D), beqp a a = true
  | [] => rfl
  | p :: as => by rw [beqp, beqq_rfl p, beqp_rfl as]; rfl
theorem beqq_rfl : ∀ a : D × D, beqq a a = true
  | (a, x) => by rw [beqq, beq_rfl a, beq_rfl x]; rfl
theorem beqf_rfl : ∀ a : List (Nat × D), beqf a a = true
  | [] => rfl
  | p :: as => by rw [beqf, beqg_rfl p, beqf_rfl as]; rfl
theorem beqg_rfl : ∀ a : Nat × D, beqg a a = true
  | (a, x) => by rw [beqg, beq_rfl x]; simp
end
mutual
theorem beq_eq : ∀ a b : D, beq a b = true → a = b
  | .non, b, h => by cases b <;> simp_all [beq]
  | .bl a, b, h => by cases b <;> simp_all [beq]
  | .int a, b, h => by cases b <;> simp_all [beq]
  | .str a, b, h => by cases b <;> simp_all [beq]
  | .scr a, b, h => by cases b <;> simp_all [beq]
  | .tup a, .tup b, h => by rw [beq] at h; rw [beqs_eq a b h]
  | .lst a, .lst b, h => by rw [beq] at h; rw [beqs_eq a b h]
  | .dct a, .dct b, h => by rw [beq] at h; rw [beqp_eq a b h]
  | .obj c a, .obj e b, h => by
    rw [beq, Bool.and_eq_true] at h
    rw [beqf_eq a b h.2, eq_of_beq h.1]
  | .tup a, .non, h | .tup a, .bl _, h | .tup a, .int _, h | .tup a, .str _, h | .tup a, .lst _, h | .tup a, .dct _, h | .tup a, .obj _ _, h | .tup a, .scr _, h => by simp [beq] at h
  | .lst a, .non, h | .lst a, .bl _, h | .lst a, .int _, h | .lst a, .str _, h | .lst a, .tup _, h | .lst a, .dct _, h | .lst a, .obj _ _, h | .lst a, .scr _, h => by simp [beq] at h
  | .dct a, .non, h | .dct a, .bl _, h | .dct a, .int _, h | .dct a, .str _, h | .dct a, .tup _, h | .dct a, .lst _, h | .dct a, .obj _ _, h | .dct a, .scr _, h => by simp [beq] at h
  | .obj c a, .non, h | .obj c a, .bl _, h | .obj c a, .int _, h | .obj c a, .str _, h | .obj c a, .tup _, h | .obj c a, .lst _, h | .obj c a, .dct _, h | .obj c a, .scr _, h => by simp [beq] at h
theorem beqs_eq : ∀ a b : List D, beqs a b = true → a = b
  | [], [], _ => rfl
  | a :: as, b :: bs, h => by
    rw [beqs, Bool.and_eq_true] at h
    rw [beq_eq a b h.1, beqs_eq as bs h.2]
  | [], _ :: _, h => by simp [beqs] at h
  | _ :: _, [], h => by simp [beqs] at h
theorem beqp_eq : ∀ a b : List (D × D), beqp a b = true → a = b
  | [], [], _ => rfl
  | p :: as, q :: bs, h => by
    rw [beqp, Bool.and_eq_true] at h
    rw [beqq_eq p q h.1, beqp_eq as bs h.2]
  | [], _ :: _, h => by simp [beqp] at h
  | _ :: _, [], h => by simp [beqp] at h
theorem beqq_eq : ∀ a b : D × D, beqq a b = true → a = b
  | (a, x), (b, y), h => by
    rw [beqq, Bool.and_eq_true] at h
    rw [beq_eq a b h.1, beq_eq x y h.2]
theorem beqf_eq : ∀ a b : List (Nat × D), beqf a b = true → a = b
  | [], [], _ => rfl
  | p :: as, q :: bs, h => by
    rw [beqf, Bool.and_eq_true] at h
    rw [beqg_eq p q h.1, beqf_eq as bs h.2]
  | [], _ :: _, h => by simp [beqf] at h
  | _ :: _, [], h => by simp [beqf] at h
theorem beqg_eq : ∀ a b : Nat × D, beqg a b = true → a = b
  | (a, x), (b, y), h => by
    rw [beqg, Bool.and_eq_true] at h
    rw [eq_of_beq h.1, beq_eq x y h.2]
end
instance : DecidableEq D := fun a b => if h : beq a b = true then isTrue (beq_eq a b h) else isFalse fun e => h (e ▸ beq_rfl a)
end D

/-- what an expression hands back: frozen data, a mutable object of the store, a new list or dict that nobody else holds, one that is held by a local name -/
inductive Val where
  | d (x : D) | r (n : Nat) | o (x : D) | b (x : D)
  deriving Inhabited, DecidableEq

/-- a mutable object -/
inductive Cell where
  | lst (xs : List Val) | dct (kvs : List (D × Val)) | ins (c : Nat) (fs : List (Nat × Val))
  deriving Inhabited, DecidableEq

abbrev Mem := List Cell
abbrev Env := List (Option Val)

namespace D
mutual
/-- a == b in Python, of data without dicts and objects -/
def eqv : D → D → Bool
  | .non, .non => true
  | .bl a, .bl b => a == b
  | .bl a, .int j => (if a then 1 else 0) == j
  | .int i, .bl b => i == (if b then 1 else 0)
  | .int i, .int j => i == j
  | .str a, .str b => a == b
  | .tup a, .tup b => eqvs a b
  | .lst a, .lst b => eqvs a b
  | _, _ => false
def eqvs : List D → List D → Bool
  | [], [] => true
  | a :: as, b :: bs => eqv a b && eqvs as bs
  | _, _ => false
end
mutual
/-- no dict, no object within -/
def plain : D → Bool
  | .non | .bl _ | .int _ => true
  | .str s => PyData.strOk s
  | .tup xs | .lst xs => plains xs
  | .dct _ | .obj _ _ | .scr _ => false
def plains : List D → Bool
  | [] => true
  | x :: xs => plain x && plains xs
end
mutual
def depth : D → Nat
  | .non | .bl _ | .int _ | .str _ => 0
  | .tup xs | .lst xs => depths xs + 1
  | .dct _ | .obj _ _ | .scr _ => 0
def depths : List D → Nat
  | [] => 0
  | x :: xs => max (depth x) (depths xs)
end
mutual
/-- as the library's data -/
def py : D → PyData
  | .non => .none
  | .bl b => .bool b
  | .int i => .int i
  | .str s => .str s
  | .tup xs => .tuple (pys xs)
  | .lst xs => .list (pys xs)
  | .dct _ => .none
  | .obj _ _ => .none
  | .scr _ => .none
def pys : List D → List PyData
  | [] => []
  | x :: xs => py x :: pys xs
end
mutual
/-- as a key -/
def key : D → Option NestedKey
  | .non => some .none
  | .bl b => some (.num (if b then 1 else 0))
  | .int i => some (.num i)
  | .str s => some (.text s)
  | .tup xs => (keys xs).map .tup
  | .lst _ | .dct _ | .obj _ _ | .scr _ => none
def keys : List D → Option (List NestedKey)
  | [] => some []
  | x :: xs => match key x, keys xs with
    | some k, some ks => some (k :: ks)
    | _, _ => none
end
mutual
/-- of one kind, place by place -/
def alike : D → D → Bool
  | .non, .non => true
  | .bl _, .bl _ => true
  | .int _, .int _ => true
  | .str _, .str _ => true
  | .tup a, .tup b => alikes a b
  | .lst a, .lst b => alikes a b
  | _, _ => false
termination_by structural x => x
def alikes : List D → List D → Bool
  | x :: xs, y :: ys => alike x y && alikes xs ys
  | [], _ => true
  | _ :: _, [] => true
termination_by structural x => x
end
mutual
/-- a < b, of data of one kind -/
def ltb : D → D → Bool
  | .bl a, .bl b => !a && b
  | .int i, .int j => decide (i < j)
  | .str a, .str b => decide (a.cps.toList < b.cps.toList)
  | .tup a, .tup b => ltbs a b
  | .lst a, .lst b => ltbs a b
  | _, _ => false
termination_by structural x => x
def ltbs : List D → List D → Bool
  | [], [] => false
  | [], _ :: _ => true
  | _ :: _, [] => false
  | x :: xs, y :: ys => if eqv x y then ltbs xs ys else ltb x y
termination_by structural x => x
end
/-- fit for a deep == -/
def eqOk (d : D) : Bool := plain d && decide (depth d ≤ 60)

mutual
theorem eqv_py : ∀ a b : D, plain a = true → plain b = true → PyData.eqv a.py b.py = eqv a b
  | .non, b, _, _ => by cases b <;> simp_all [py, eqv, PyData.eqv, plain]
  | .bl x, b, _, _ => by cases b <;> simp_all [py, eqv, PyData.eqv, plain]
  | .int x, b, _, _ => by cases b <;> simp_all [py, eqv, PyData.eqv, plain]
  | .str x, b, _, _ => by cases b <;> simp_all [py, eqv, PyData.eqv, plain]
  | .tup xs, b, h, h' => by
    cases b with
    | tup ys =>
      rw [py, py, PyData.eqv, eqv]
      exact eqvs_py xs ys (by simpa [plain] using h) (by simpa [plain] using h')
    | _ => simp_all [py, eqv, PyData.eqv, plain]
  | .lst xs, b, h, h' => by
    cases b with
    | lst ys =>
      rw [py, py, PyData.eqv, eqv]
      exact eqvs_py xs ys (by simpa [plain] using h) (by simpa [plain] using h')
    | _ => simp_all [py, eqv, PyData.eqv, plain]
  | .dct _, _, h, _ => by simp [plain] at h
  | .obj _ _, _, h, _ => by simp [plain] at h
  | .scr _, _, h, _ => by simp [plain] at h
theorem eqvs_py : ∀ a b : List D, plains a = true → plains b = true → PyData.eqvAll (pys a) (pys b) = eqvs a b
  | [], [], _, _ => rfl
  | [], _ :: _, _, _ => rfl
  | _ :: _, [], _, _ => rfl
  | x :: xs, y :: ys, h, h' => by
    rw [plains, Bool.and_eq_true] at h h'
    rw [pys, pys, PyData.eqvAll, eqvs, eqv_py x y h.1 h'.1, eqvs_py xs ys h.2 h'.2]
end
mutual
theorem canLay_py : ∀ a : D, plain a = true → a.py.canLay0 = true
  | .non, _ => rfl
  | .bl _, _ => rfl
  | .int _, _ => rfl
  | .str s, h => by rw [py, PyData.canLay0]; simpa [plain] using h
  | .tup xs, h => by rw [py, PyData.canLay0]; exact canLays_py xs (by simpa [plain] using h)
  | .lst xs, h => by rw [py, PyData.canLay0]; exact canLays_py xs (by simpa [plain] using h)
  | .dct _, h => by simp [plain] at h
  | .obj _ _, h => by simp [plain] at h
  | .scr _, h => by simp [plain] at h
theorem canLays_py : ∀ a : List D, plains a = true → PyData.canLayAll0 (pys a) = true
  | [], _ => rfl
  | x :: xs, h => by
    rw [plains, Bool.and_eq_true] at h
    rw [pys, PyData.canLayAll0, canLay_py x h.1, canLays_py xs h.2]; rfl
end
mutual
theorem depth_py : ∀ a : D, a.py.depth = a.depth
  | .non => rfl
  | .bl _ => rfl
  | .int _ => rfl
  | .str s => rfl
  | .tup xs => by rw [py, PyData.depth, depth, depths_py xs]
  | .lst xs => by rw [py, PyData.depth, depth, depths_py xs]
  | .dct _ => rfl
  | .obj _ _ => rfl
  | .scr _ => rfl
theorem depths_py : ∀ a : List D, PyData.depthAll (pys a) = depths a
  | [] => rfl
  | x :: xs => by rw [pys, PyData.depthAll, depths, depth_py x, depths_py xs]
end
open PySem.W in
mutual
theorem alike_py : ∀ a b : D, plain a = true → plain b = true → W.alike a.py b.py = alike a b
  | .non, b, _, _ => by cases b <;> simp_all [py, alike, W.alike, plain]
  | .bl x, b, _, _ => by cases b <;> simp_all [py, alike, W.alike, plain]
  | .int x, b, _, _ => by cases b <;> simp_all [py, alike, W.alike, plain]
  | .str x, b, _, _ => by cases b <;> simp_all [py, alike, W.alike, plain]
  | .tup xs, b, h, h' => by
    cases b with
    | tup ys =>
      rw [py, py, W.alike, alike]
      exact alikes_py xs ys (by simpa [plain] using h) (by simpa [plain] using h')
    | _ => simp_all [py, alike, W.alike, plain]
  | .lst xs, b, h, h' => by
    cases b with
    | lst ys =>
      rw [py, py, W.alike, alike]
      exact alikes_py xs ys (by simpa [plain] using h) (by simpa [plain] using h')
    | _ => simp_all [py, alike, W.alike, plain]
  | .dct _, _, h, _ => by simp [plain] at h
  | .obj _ _, _, h, _ => by simp [plain] at h
  | .scr _, _, h, _ => by simp [plain] at h
theorem alikes_py : ∀ a b : List D, plains a = true → plains b = true → W.alikeAll (pys a) (pys b) = alikes a b
  | [], [], _, _ => rfl
  | [], _ :: _, _, _ => rfl
  | _ :: _, [], _, _ => rfl
  | x :: xs, y :: ys, h, h' => by
    rw [plains, Bool.and_eq_true] at h h'
    rw [pys, pys, W.alikeAll, alikes, alike_py x y h.1 h'.1, alikes_py xs ys h.2 h'.2]
end
open PySem.W in
mutual
theorem ltb_py : ∀ a b : D, plain a = true → plain b = true → alike a b = true → a ≠ .non → W.dataLt a.py b.py = ltb a b
  | .non, _, _, _, _, h => absurd rfl h
  | .bl x, .bl y, _, _, _, _ => by rw [py, py, W.dataLt_bool, ltb]; cases x <;> cases y <;> rfl
  | .int x, .int y, _, _, _, _ => by rw [py, py, W.dataLt_int, ltb]
  | .str x, .str y, _, _, _, _ => by rw [py, py, W.dataLt_str, ltb]
  | .tup xs, .tup ys, h, h', a, _ => by
    rw [py, py, ltb]
    exact ltbs_py xs ys (by simpa [plain] using h) (by simpa [plain] using h') (by simpa [alike] using a)
  | .lst xs, .lst ys, h, h', a, _ => by
    rw [py, py, ltb]
    refine ((W.dataLt_list _ _).trans (W.dataLt_tuple _ _).symm).trans ?_
    exact ltbs_py xs ys (by simpa [plain] using h) (by simpa [plain] using h') (by simpa [alike] using a)
  | .bl _, .non, _, _, h, _ | .bl _, .int _, _, _, h, _ | .bl _, .str _, _, _, h, _ | .bl _, .tup _, _, _, h, _ | .bl _, .lst _, _, _, h, _ | .bl _, .dct _, _, _, h, _ | .bl _, .obj _ _, _, _, h, _ | .bl _, .scr _, _, _, h, _ => by simp [alike] at h
  | .int _, .non, _, _, h, _ | .int _, .bl _, _, _, h, _ | .int _, .str _, _, _, h, _ | .int _, .tup _, _, _, h, _ | .int _, .lst _, _, _, h, _ | .int _, .dct _, _, _, h, _ | .int _, .obj _ _, _, _, h, _ | .int _, .scr _, _, _, h, _ => by simp [alike] at h
  | .str _, .non, _, _, h, _ | .str _, .bl _, _, _, h, _ | .str _, .int _, _, _, h, _ | .str _, .tup _, _, _, h, _ | .str _, .lst _, _, _, h, _ | .str _, .dct _, _, _, h, _ | .str _, .obj _ _, _, _, h, _ | .str _, .scr _, _, _, h, _ => by simp [alike] at h
  | .tup _, .non, _, _, h, _ | .tup _, .bl _, _, _, h, _ | .tup _, .int _, _, _, h, _ | .tup _, .str _, _, _, h, _ | .tup _, .lst _, _, _, h, _ | .tup _, .dct _, _, _, h, _ | .tup _, .obj _ _, _, _, h, _ | .tup _, .scr _, _, _, h, _ => by simp [alike] at h
  | .lst _, .non, _, _, h, _ | .lst _, .bl _, _, _, h, _ | .lst _, .int _, _, _, h, _ | .lst _, .str _, _, _, h, _ | .lst _, .tup _, _, _, h, _ | .lst _, .dct _, _, _, h, _ | .lst _, .obj _ _, _, _, h, _ | .lst _, .scr _, _, _, h, _ => by simp [alike] at h
  | .dct _, _, h, _, _, _ => by simp [plain] at h
  | .obj _ _, _, h, _, _, _ => by simp [plain] at h
  | .scr _, _, h, _, _, _ => by simp [plain] at h
theorem ltbs_py : ∀ a b : List D, plains a = true → plains b = true → alikes a b = true → W.dataLt (.tuple (pys a)) (.tuple (pys b)) = ltbs a b
  | [], [], _, _, _ => by rw [pys, ltbs]; decide +kernel
  | [], y :: ys, _, _, _ => by
    rw [pys, pys, ltbs, W.dataLt_tuple]
    have h := W.firstLt_toks [] (y.py :: pys ys) rfl
    refine h.symm.trans ?_
    simp [SeqAt.firstLt]
  | x :: xs, [], _, _, _ => by
    rw [pys, pys, ltbs, W.dataLt_tuple]
    have h := W.firstLt_toks (x.py :: pys xs) [] rfl
    refine h.symm.trans ?_
    simp [SeqAt.firstLt]
  | x :: xs, y :: ys, h, h', a => by
    rw [plains, Bool.and_eq_true] at h h'
    rw [alikes, Bool.and_eq_true] at a
    rw [pys, pys, ltbs]
    have ha : W.alike x.py y.py = true := by rw [alike_py x y h.1 h'.1]; exact a.1
    cases e : eqv x y with
    | true =>
      rw [if_pos rfl, W.dataLt_tuple]
      refine (W.dataLt_all_yes ha (by rw [eqv_py x y h.1 h'.1]; exact e)).trans ?_
      rw [← W.dataLt_tuple]
      exact ltbs_py xs ys h.2 h'.2 a.2
    | false =>
      have e2 : PyData.eqv x.py y.py = false := by rw [eqv_py x y h.1 h'.1]; exact e
      rw [if_neg Bool.false_ne_true, W.dataLt_tuple]
      refine (W.dataLt_all_no ha e2).trans ?_
      exact ltb_py x y h.1 h'.1 a.1 (by
        rintro rfl
        exact W.ne_none_of ha e2 rfl)
end
theorem shaped_py {a : D} (h : a.eqOk = true) : SeqAt.shaped a.py = true := by
  unfold eqOk at h
  rw [Bool.and_eq_true, decide_eq_true_eq] at h
  unfold SeqAt.shaped
  rw [canLay_py a h.1, depth_py a, Bool.true_and, decide_eq_true_eq]
  exact Nat.le_trans h.2 (by decide)
theorem depth_eqOk {a : D} (h : a.eqOk = true) : a.depth ≤ 60 := by
  unfold eqOk at h
  rw [Bool.and_eq_true, decide_eq_true_eq] at h
  exact h.2
end D
end Fm
end

/-! ## part LB -/
section
set_option maxHeartbeats 4000000
namespace Fm
open PySem PySem.Spec L2

/-- where classes stand, what attributes are called -/
structure Nm where
  cls : Nat → Addr
  att : Nat → Str

/-- a key of a dict, as data -/
def kD : L2.Key → D
  | .inl i => .int i
  | .inr s => .str s

section
variable (N : Nm) (w : World) (K : PySem.W.Frag)
mutual
inductive Rep (G : Hp) : V → D → Prop
  | non : Rep G .non .non
  | bl (b : Bool) : Rep G (.bl b) (.bl b)
  | int (i : Int) : Rep G (.int i) (.int i)
  | str (s : Str) : Rep G (.str s) (.str s)
  | tup {a : Addr} {vs : List V} {ds : List D} : SqT K G a vs → Reps G vs ds → Rep G (.ref a) (.tup ds)
  | lst {a : Addr} {vs : List V} {ds : List D} : G a = some (.lst vs) → Reps G vs ds → Rep G (.ref a) (.lst ds)
  | scr {a : Addr} {ns : List Int} : SqL K G a (ns.map V.int) → Rep G (.ref a) (.scr ns)
  | dct {a : Addr} {es : List (L2.Key × V)} {kvs : List (D × D)} : w = w → G a = some (.dK es) → RepE G es kvs → Rep G (.ref a) (.dct kvs)
  | obj {a dx : Addr} {c : Nat} {gs : List (Str × V)} {fs : List (Nat × D)} : G a = some (.ins (N.cls c) dx gs) → RepF G gs fs → Rep G (.ref a) (.obj c fs)
inductive Reps (G : Hp) : List V → List D → Prop
  | nil : Reps G [] []
  | cons {v : V} {d : D} {vs : List V} {ds : List D} : Rep G v d → Reps G vs ds → Reps G (v :: vs) (d :: ds)
inductive RepE (G : Hp) : List (L2.Key × V) → List (D × D) → Prop
  | nil : RepE G [] []
  | cons {k : L2.Key} {v : V} {d : D} {es : List (L2.Key × V)} {kvs : List (D × D)} : Rep G v d → RepE G es kvs → RepE G ((k, v) :: es) ((kD k, d) :: kvs)
inductive RepF (G : Hp) : List (Str × V) → List (Nat × D) → Prop
  | nil : RepF G [] []
  | cons {f : Nat} {v : V} {d : D} {gs : List (Str × V)} {fs : List (Nat × D)} : Rep G v d → RepF G gs fs → RepF G ((N.att f, v) :: gs) ((f, d) :: fs)
end
end

/-- one heap holds what another one holds -/
def Sub (G H : Hp) : Prop := ∀ a o, G a = some o → H a = some o
theorem Sub.refl {G : Hp} : Sub G G := fun _ _ h => h
theorem Sub.trans {A B C : Hp} (h : Sub A B) (k : Sub B C) : Sub A C := fun a o e => k a o (h a o e)

section
variable {N : Nm} {w : World} {K : PySem.W.Frag} {G H : Hp}
theorem Rd.sub {a : Addr} {u : HO} (h : Rd G a u) (s : Sub G H) : Rd H a u := by
  rcases h with h | ⟨o, h⟩
  · exact .inl (s _ _ h)
  · exact .inr ⟨o, s _ _ h⟩
theorem SqL.sub {a : Addr} {xs : List V} (h : SqL K G a xs) (s : Sub G H) : SqL K H a xs := h.imp (fun z => Rd.sub z s) id
theorem SqT.sub {a : Addr} {xs : List V} (h : SqT K G a xs) (s : Sub G H) : SqT K H a xs := h.imp (fun z => Rd.sub z s) id
mutual
theorem Rep.sub (s : Sub G H) : ∀ {v : V} {d : D}, Rep N w K G v d → Rep N w K H v d
  | _, _, .non => .non
  | _, _, .bl b => .bl b
  | _, _, .int i => .int i
  | _, _, .str x => .str x
  | _, _, .tup h r => .tup (SqT.sub h s) (Reps.sub s r)
  | _, _, .lst h r => .lst (s _ _ h) (Reps.sub s r)
  | _, _, .scr h => .scr (SqL.sub h s)
  | _, _, .dct q h r => .dct q (s _ _ h) (RepE.sub s r)
  | _, _, .obj h r => .obj (s _ _ h) (RepF.sub s r)
theorem Reps.sub (s : Sub G H) : ∀ {vs : List V} {ds : List D}, Reps N w K G vs ds → Reps N w K H vs ds
  | _, _, .nil => .nil
  | _, _, .cons h r => .cons (Rep.sub s h) (Reps.sub s r)
theorem RepE.sub (s : Sub G H) : ∀ {es : List (L2.Key × V)} {kvs : List (D × D)}, RepE N w K G es kvs → RepE N w K H es kvs
  | _, _, .nil => .nil
  | _, _, .cons f r => .cons (Rep.sub s f) (RepE.sub s r)
theorem RepF.sub (s : Sub G H) : ∀ {gs : List (Str × V)} {fs : List (Nat × D)}, RepF N w K G gs fs → RepF N w K H gs fs
  | _, _, .nil => .nil
  | _, _, .cons h r => .cons (Rep.sub s h) (RepF.sub s r)
end
theorem Reps.length : ∀ {vs : List V} {ds : List D}, Reps N w K G vs ds → vs.length = ds.length
  | _, _, .nil => rfl
  | _, _, .cons _ r => by simp [Reps.length r]
theorem Reps.get : ∀ {vs : List V} {ds : List D} {i : Nat} {v : V}, Reps N w K G vs ds → vs[i]? = some v → ∃ d, ds[i]? = some d ∧ Rep N w K G v d
  | _, _, _, _, .nil, e => by simp at e
  | _, _, 0, v, .cons h _, e => by simp at e; subst e; exact ⟨_, rfl, h⟩
  | _, _, i + 1, v, .cons _ r, e => by
    obtain ⟨d, h1, h2⟩ := Reps.get r (i := i) (by simpa using e)
    exact ⟨d, by simpa using h1, h2⟩
theorem Reps.getD : ∀ {vs : List V} {ds : List D} {i : Nat} {d : D}, Reps N w K G vs ds → ds[i]? = some d → ∃ v, vs[i]? = some v ∧ Rep N w K G v d
  | _, _, _, _, .nil, e => by simp at e
  | _, _, 0, v, .cons h _, e => by simp at e; subst e; exact ⟨_, rfl, h⟩
  | _, _, i + 1, v, .cons _ r, e => by
    obtain ⟨d, h1, h2⟩ := Reps.getD r (i := i) (by simpa using e)
    exact ⟨d, by simpa using h1, h2⟩
theorem Reps.append : ∀ {vs ws : List V} {ds es : List D}, Reps N w K G vs ds → Reps N w K G ws es → Reps N w K G (vs ++ ws) (ds ++ es)
  | _, _, _, _, .nil, s => s
  | _, _, _, _, .cons h r, s => .cons h (Reps.append r s)
theorem Reps.drop : ∀ {vs : List V} {ds : List D} (n : Nat), Reps N w K G vs ds → Reps N w K G (vs.drop n) (ds.drop n)
  | _, _, 0, r => r
  | _, _, _ + 1, .nil => .nil
  | _, _, n + 1, .cons _ r => Reps.drop n r
theorem Reps.take : ∀ {vs : List V} {ds : List D} (n : Nat), Reps N w K G vs ds → Reps N w K G (vs.take n) (ds.take n)
  | _, _, 0, _ => .nil
  | _, _, _ + 1, .nil => .nil
  | _, _, n + 1, .cons h r => .cons h (Reps.take n r)
theorem Reps.set : ∀ {vs : List V} {ds : List D} (i : Nat) {v : V} {d : D}, Reps N w K G vs ds → Rep N w K G v d → Reps N w K G (vs.set i v) (ds.set i d)
  | _, _, _, _, _, .nil, _ => .nil
  | _, _, 0, _, _, .cons _ r, h => .cons h r
  | _, _, i + 1, _, _, .cons h r, q => .cons h (Reps.set i r q)
mutual
/-- plain data as the library reads it -/
theorem Rep.dp : ∀ {v : V} {d : D}, Rep N w K G v d → d.plain = true → Dp K G v d.py
  | _, _, .non, _ => .non
  | _, _, .bl b, _ => .bl b
  | _, _, .int i, _ => .int i
  | _, _, .str x, _ => .str x
  | _, _, .tup h r, p => by rw [D.py]; exact .tup h (Reps.dp r (by simpa [D.plain] using p))
  | _, _, .lst h r, p => by rw [D.py]; exact .lst (SqL.of h) (Reps.dp r (by simpa [D.plain] using p))
  | _, _, .dct _ _ _, p => by simp [D.plain] at p
  | _, _, .obj _ _, p => by simp [D.plain] at p
  | _, _, .scr _, p => by simp [D.plain] at p
theorem Reps.dp : ∀ {vs : List V} {ds : List D}, Reps N w K G vs ds → D.plains ds = true → DpAll K G vs (D.pys ds)
  | _, _, .nil, _ => .nil
  | _, _, .cons h r, p => by
    rw [D.plains, Bool.and_eq_true] at p
    exact .cons (Rep.dp h p.1) (Reps.dp r p.2)
end
end

/-! ### what stands at the top of a value -/
section
variable (N : Nm) (w : World) (K : PySem.W.Frag)
/-- the object at a is this one; what is within it is held by G -/
def Top (G H : Hp) (a : Addr) : D → Prop
  | .lst ds => ∃ vs, H a = some (.lst vs) ∧ Reps N w K G vs ds
  | .dct kvs => ∃ es, H a = some (.dK es) ∧ RepE N w K G es kvs
  | .obj c fs => ∃ dx gs, H a = some (.ins (N.cls c) dx gs) ∧ RepF N w K G gs fs
  | _ => False
/-- what may be stored: data, or an object of the store -/
def Stv (G : Hp) (as : List Addr) : V → Val → Prop
  | v, .d x => Rep N w K G v x
  | v, .r n => ∃ a, as[n]? = some a ∧ v = .ref a
  | _, _ => False
def CellAt (G : Hp) (as : List Addr) (H : Hp) (a : Addr) : Cell → Prop
  | .lst xs => ∃ vs, H a = some (.lst vs) ∧ Paired (Stv N w K G as) vs xs
  | .dct kvs => ∃ es, H a = some (.dK es) ∧ Paired (fun (e : L2.Key × V) (p : D × Val) => p.1 = kD e.1 ∧ Stv N w K G as e.2 p.2) es kvs
  | .ins c fs => ∃ dx gs, H a = some (.ins (N.cls c) dx gs) ∧ Paired (fun (g : Str × V) (p : Nat × Val) => g.1 = N.att p.1 ∧ Stv N w K G as g.2 p.2) gs fs
/-- the frozen heap, the store -/
structure Wf (G H : Hp) (as : List Addr) (M : Mem) : Prop where
  sub : Sub G H
  len : as.length = M.length
  mem : ∀ (n : Nat) (a : Addr) (c : Cell), as[n]? = some a → M[n]? = some c → CellAt N w K G as H a c
  nd : as.Nodup
  out : ∀ a ∈ as, G a = none
/-- one step further -/
structure Stp (as : List Addr) (G H : Hp) (as' : List Addr) (G' H' : Hp) : Prop where
  ext : Sub G G'
  pre : ∃ more, as' = as ++ more
  keep : ∀ a o, H a = some o → a ∉ as → H' a = some o
  free : ∀ a o, H a = some o → G a = none → G' a = none
  new : ∀ a ∈ as', a ∈ as ∨ H a = none
  live : ∀ a o, H a = some o → ∃ o', H' a = some o'
end
section
variable {N : Nm} {w : World} {K : PySem.W.Frag} {as as1 as2 : List Addr} {G G1 G2 H H1 H2 : Hp}
theorem Stp.refl : Stp as G H as G H := ⟨Sub.refl, ⟨[], by simp⟩, fun _ _ h _ => h, fun _ _ _ h => h, fun _ h => .inl h, fun _ o h => ⟨o, h⟩⟩
theorem Stp.trans (s : Stp as G H as1 G1 H1) (t : Stp as1 G1 H1 as2 G2 H2) : Stp as G H as2 G2 H2 where
  ext := s.ext.trans t.ext
  pre := by
    obtain ⟨m, rfl⟩ := s.pre
    obtain ⟨m', rfl⟩ := t.pre
    exact ⟨m ++ m', by simp⟩
  keep := fun a o h n => t.keep a o (s.keep a o h n) fun h1 => by
    rcases s.new a h1 with q | q
    · exact n q
    · rw [h] at q; cases q
  free := fun a o h n => by
    obtain ⟨o', e⟩ := s.live a o h
    exact t.free a o' e (s.free a o h n)
  new := fun a h => by
    rcases t.new a h with q | q
    · exact s.new a q
    · cases e : H a with
      | none => exact .inr rfl
      | some o =>
        obtain ⟨o', e'⟩ := s.live a o e
        rw [e'] at q; cases q
  live := fun a o h => by
    obtain ⟨o', e⟩ := s.live a o h
    exact t.live a o' e
theorem Stp.as_get (s : Stp as G H as1 G1 H1) {n : Nat} {a : Addr} (h : as[n]? = some a) : as1[n]? = some a := by
  obtain ⟨m, rfl⟩ := s.pre
  have hl := (List.getElem?_eq_some_iff.mp h).1
  rw [List.getElem?_append_left hl]; exact h
theorem Stv.mono {v : V} {x : Val} (h : Stv N w K G as v x) (e : Sub G G1) (p : ∀ (n : Nat) (a : Addr), as[n]? = some a → as1[n]? = some a) : Stv N w K G1 as1 v x := by
  cases x with
  | d x => exact Rep.sub e (show Rep N w K G v x from h)
  | r n =>
    obtain ⟨a, h1, h2⟩ := h
    exact ⟨a, p _ _ h1, h2⟩
  | o x => exact h.elim
  | b x => exact h.elim
theorem Stv.stp {v : V} {x : Val} (h : Stv N w K G as v x) (s : Stp as G H as1 G1 H1) : Stv N w K G1 as1 v x := h.mono s.ext fun _ _ => s.as_get
theorem Top.stp {a : Addr} {d : D} (h : Top N w K G H a d) (k : ∀ o, H a = some o → H1 a = some o) (e : Sub G G1) : Top N w K G1 H1 a d := by
  cases d with
  | lst ds => obtain ⟨vs, h1, h2⟩ := h; exact ⟨vs, k _ h1, Reps.sub e h2⟩
  | dct ds => obtain ⟨vs, h1, h2⟩ := h; exact ⟨vs, k _ h1, RepE.sub e h2⟩
  | obj c fs => obtain ⟨dx, vs, h1, h2⟩ := h; exact ⟨dx, vs, k _ h1, RepF.sub e h2⟩
  | _ => exact h.elim
theorem Top.some {a : Addr} {d : D} (h : Top N w K G H a d) : ∃ o, H a = some o := by
  cases d with
  | lst ds => obtain ⟨vs, h1, h2⟩ := h; exact ⟨_, h1⟩
  | dct ds => obtain ⟨vs, h1, h2⟩ := h; exact ⟨_, h1⟩
  | obj c fs => obtain ⟨dx, vs, h1, h2⟩ := h; exact ⟨_, h1⟩
  | _ => exact h.elim
theorem Top.rep {a : Addr} {d : D} (h : Top N w K G G a d) : Rep N w K G (.ref a) d := by
  cases d with
  | lst ds => obtain ⟨vs, h1, h2⟩ := h; exact .lst h1 h2
  | dct ds => obtain ⟨vs, h1, h2⟩ := h; exact .dct rfl h1 h2
  | obj c fs => obtain ⟨dx, vs, h1, h2⟩ := h; exact .obj h1 h2
  | _ => exact h.elim
theorem Paired.mono {α β : Type} {F F' : α → β → Prop} (i : ∀ a b, F a b → F' a b) : ∀ {l : List α} {m : List β}, Paired F l m → Paired F' l m
  | _, _, .nil => .nil
  | _, _, .cons h t => .cons (i _ _ h) (Paired.mono i t)
theorem CellAt.mono {a : Addr} {c : Cell} (h : CellAt N w K G as H a c) (k : ∀ o, H a = some o → H1 a = some o) (e : Sub G G1) (p : ∀ (n : Nat) (a : Addr), as[n]? = some a → as1[n]? = some a) : CellAt N w K G1 as1 H1 a c := by
  cases c with
  | lst xs => obtain ⟨vs, h1, h2⟩ := h; exact ⟨vs, k _ h1, Paired.mono (fun _ _ q => Stv.mono q e p) h2⟩
  | dct kvs =>
    obtain ⟨es, h1, h2⟩ := h
    exact ⟨es, k _ h1, Paired.mono (fun _ _ ⟨q1, q2⟩ => ⟨q1, Stv.mono q2 e p⟩) h2⟩
  | ins c fs =>
    obtain ⟨dx, gs, h1, h2⟩ := h
    exact ⟨dx, gs, k _ h1, Paired.mono (fun _ _ ⟨q1, q2⟩ => ⟨q1, Stv.mono q2 e p⟩) h2⟩
theorem CellAt.some {a : Addr} {c : Cell} (h : CellAt N w K G as H a c) : ∃ o, H a = some o := by
  cases c with
  | lst xs => obtain ⟨vs, h1, h2⟩ := h; exact ⟨_, h1⟩
  | dct kvs => obtain ⟨es, h1, h2⟩ := h; exact ⟨_, h1⟩
  | ins c fs => obtain ⟨dx, gs, h1, h2⟩ := h; exact ⟨_, h1⟩
end
end Fm
end

/-! ## part LC -/
section
set_option maxHeartbeats 4000000
namespace Fm
open PySem

inductive BOp where | add | sub | mul | fdiv | mod | pow
  deriving DecidableEq
inductive COp where | lt | le | gt | ge | eq | ne | is | isnot | in_ | notin
  deriving DecidableEq
/-- built-in classes -/
inductive Ty where | int | bool | str | tuple | list | dict
  deriving DecidableEq
/-- built-in functions -/
inductive Pr where | len | abs | int | sum | all | any | tuple | list | sorted | min | max | dict
  deriving DecidableEq
/-- methods that change nothing -/
inductive Mt where | get | get2 | keys | values | items | index | count
  deriving DecidableEq
/-- methods that change their object -/
inductive Mu where | append | extend | pop | popAt | clear | remove
  deriving DecidableEq
/-- what is walked -/
inductive Ik where | seq | range1 | range2 | zip | enum
  deriving DecidableEq
inductive Tg where | v (i : Nat) | t (is : List Nat)
  deriving DecidableEq

inductive E where
  | var (i : Nat) | c (x : D) | g (i : Nat)
  | tup (es : List E) | lst (es : List E) | mlst (es : List E) | mref (e : E)
  | not (a : E) | and (a b : E) | or (a b : E) | neg (a : E)
  | bin (o : BOp) (a b : E) | cmp (o : COp) (a b : E) | chain (o p : COp) (a b c : E) | ife (c a b : E)
  | ix (a i : E) | sl (a : E) (lo hi : List E)
  | att (a : E) (f : Nat) | call (f : Nat) (es : List E)
  | pr (p : Pr) (es : List E) | mt (m : Mt) (a : E) (es : List E) | isi (a : E) (t : Ty) | dzip (es : List E)
  | lc (e : E) (tg : Tg) (k : Ik) (args ifs : List E) (own : List Nat)
  | lc2 (e : E) (tg : Tg) (k : Ik) (args : List E) (tg2 : Tg) (k2 : Ik) (args2 : List E) (own own2 : List Nat)
  deriving Inhabited

inductive S where
  | asg (tg : Tg) (e : E) | own (i : Nat) (e : E) | asg2 (i j : Nat) (a b : E)
  | frz (i : Nat) | kill (is : List Nat)
  | ret (e : E) | retmv (i : Nat) | expr (e : E)
  | ifs (c : E) (a b : List S) | fors (tg : Tg) (k : Ik) (args : List E) (body : List S) | whiles (c : E) (body : List S)
  | brk | cnt | pas | never
  | mu (m : Mu) (i : Nat) (es : List E)
  | setix (i : Nat) (k e : E) | setixm (x k e : E)
  | raise (c : Nat) (es : List E)
  deriving Inhabited

inductive Res (α : Type) where
  | ok (a : α) (M : Mem) | ex (c : Nat) (fs : List (Nat × D)) (M : Mem) | bad
def Res.bind {α β : Type} (r : Res α) (f : α → Mem → Res β) : Res β := match r with
  | .ok a M => f a M
  | .ex c fs M => .ex c fs M
  | .bad => .bad
@[simp] theorem Res.bind_ok {α β : Type} (a : α) (M : Mem) (f : α → Mem → Res β) : (Res.ok a M).bind f = f a M := Eq.trans rfl rfl
@[simp] theorem Res.bind_ex {α β : Type} (c : Nat) (fs : List (Nat × D)) (M : Mem) (f : α → Mem → Res β) : (Res.ex c fs M : Res α).bind f = .ex c fs M := Eq.trans rfl rfl
@[simp] theorem Res.bind_bad {α β : Type} (f : α → Mem → Res β) : (Res.bad : Res α).bind f = .bad := Eq.trans rfl rfl
/-- nothing may be raised here -/
def Res.nox {α : Type} (r : Res α) : Res α := match r with
  | .ok a M => .ok a M
  | _ => .bad
@[simp] theorem Res.nox_ok {α : Type} (a : α) (M : Mem) : (Res.ok a M).nox = .ok a M := Eq.trans rfl rfl
@[simp] theorem Res.nox_bad {α : Type} : (Res.bad : Res α).nox = .bad := Eq.trans rfl rfl
@[simp] theorem Res.nox_ite {α : Type} (c : Prop) [Decidable c] (x y : Res α) : (if c then x else y).nox = if c then x.nox else y.nox := by
  split <;> rfl
/-- a value that may be lacking -/
def Res.of {α : Type} (o : Option α) (M : Mem) : Res α := match o with
  | some a => .ok a M
  | none => .bad
@[simp] theorem Res.of_some {α : Type} (a : α) (M : Mem) : Res.of (some a) M = .ok a M := Eq.trans rfl rfl
@[simp] theorem Res.bind_ite {α β : Type} (c : Prop) [Decidable c] (x y : Res α) (f : α → Mem → Res β) : (if c then x else y).bind f = if c then x.bind f else y.bind f := by
  split <;> rfl
@[simp] theorem Res.of_none {α : Type} (M : Mem) : (Res.of none M : Res α) = .bad := Eq.trans rfl rfl

abbrev CallF := Nat → List Val → Mem → Res Val
structure Fd where
  np : Nat
  nn : Nat
  body : List S
structure Tab where
  fn : Nat → Option Fd
  gl : Nat → Option D
  /-- the fields that a class of exceptions keeps -/
  exf : Nat → Option (List Nat)

/-! ### values -/
def D.truth : D → Option Bool
  | .non => some false
  | .bl b => some b
  | .int i => some (i != 0)
  | .str s => if s.length ≤ sizeLine then some ((s.length : Int) != 0) else none
  | .tup xs => some (!xs.isEmpty)
  | .lst xs => some (!xs.isEmpty)
  | .dct _ => none
  | .obj _ _ => none
  | .scr _ => none
/-- the data to be looked at, kept by nobody -/
def Val.peek : Val → Option D
  | .d x | .o x | .b x => some x
  | .r _ => none
/-- the data to be kept -/
def Val.toD : Val → Option D
  | .d x | .o x => some x
  | .b _ | .r _ => none
/-- what may be handed on -/
def Val.toArg : Val → Option Val
  | .d x | .o x => some (.d x)
  | .r n => some (.r n)
  | .b _ => none
def Val.truth (v : Val) : Option Bool := v.peek.bind D.truth

/-- the place of an index -/
def ixAt (n : Nat) (i : Int) : Option Nat := if 0 ≤ i then (if i < n then some i.toNat else none) else if -(n : Int) ≤ i then some (i + n).toNat else none
def cutD {α : Type} (xs : List α) (lo hi : Option Int) : List α := (xs.drop (HT.sIx xs.length 0 lo)).take (HT.sIx xs.length xs.length hi - HT.sIx xs.length 0 lo)

def mulOk (i j : Int) : Bool := decide (i.natAbs < 2 ^ 64) || decide (j.natAbs < 2 ^ 64)
def fits (n : Nat) : Bool := decide (n ≤ sizeLine)

def addD : D → D → Option Val
  | .int i, .int j => some (.d (.int (i + j)))
  | .tup a, .tup b => if fits (a.length + b.length) then some (.d (.tup (a ++ b))) else none
  | .lst a, .lst b => if fits (a.length + b.length) then some (.o (.lst (a ++ b))) else none
  | _, _ => none
def subD : D → D → Option Val
  | .int i, .int j => some (.d (.int (i - j)))
  | _, _ => none
def mulD : D → D → Option Val
  | .int i, .int j => if mulOk i j then some (.d (.int (i * j))) else none
  | _, _ => none
def fdivD : D → D → Option Val
  | .int i, .int j => if 0 < j ∧ j < 1073741824 then some (.d (.int (i / j))) else none
  | _, _ => none
def modD : D → D → Option Val
  | .int i, .int j => if 0 < j then some (.d (.int (i % j))) else none
  | _, _ => none
def powD : D → D → Option Val
  | .int i, .int j => if 0 ≤ j ∧ j ≤ 1000000 ∧ i.natAbs < 2 ^ 64 then some (.d (.int (i ^ j.toNat))) else none
  | _, _ => none
def binD : BOp → D → D → Option Val
  | .add, a, b => addD a b
  | .sub, a, b => subD a b
  | .mul, a, b => mulD a b
  | .fdiv, a, b => fdivD a b
  | .mod, a, b => modD a b
  | .pow, a, b => powD a b

def memD (x : D) (xs : List D) : Bool := xs.any fun y => D.eqv y x
def cmpLt : D → D → Option Bool
  | .int i, .int j => some (decide (i < j))
  | a, b => if a.eqOk && b.eqOk && D.alike a b && !decide (a = .non) then some (D.ltb a b) else none
def cmpLe : D → D → Option Bool
  | .int i, .int j => some (decide (i ≤ j))
  | _, _ => none
def cmpGt : D → D → Option Bool
  | .int i, .int j => some (decide (j < i))
  | _, _ => none
def cmpGe : D → D → Option Bool
  | .int i, .int j => some (decide (j ≤ i))
  | _, _ => none
def cmpEq (a b : D) : Option Bool := if a.eqOk && b.eqOk then some (D.eqv a b) else none
def cmpIs : D → D → Option Bool
  | a, .non => some (decide (a = .non))
  | .bl a, .bl b => some (decide (a = b))
  | _, _ => none
def cmpIn (x : D) : D → Option Bool
  | .lst ys => if x.eqOk && (D.lst ys).eqOk then some (memD x ys) else none
  | .tup ys => if x.eqOk && (D.tup ys).eqOk then some (memD x ys) else none
  | _ => none
def cmpD : COp → D → D → Option Bool
  | .lt, a, b => cmpLt a b
  | .le, a, b => cmpLe a b
  | .gt, a, b => cmpGt a b
  | .ge, a, b => cmpGe a b
  | .eq, a, b => cmpEq a b
  | .ne, a, b => (cmpEq a b).map (!·)
  | .is, a, b => cmpIs a b
  | .isnot, a, b => (cmpIs a b).map (!·)
  | .in_, a, b => cmpIn a b
  | .notin, a, b => (cmpIn a b).map (!·)

/-- the name of a value's class -/
def D.ty : D → Option String
  | .non => some "NoneType"
  | .bl _ => some "bool"
  | .int _ => some "int"
  | .str _ => some "str"
  | .tup _ => some "tuple"
  | .lst _ => some "list"
  | .scr _ => some "list"
  | .dct _ => some "dict"
  | .obj _ _ => none
def Ty.nm : Ty → String
  | .int => "int" | .bool => "bool" | .str => "str" | .tuple => "tuple" | .list => "list" | .dict => "dict"
def isT : Ty → D → Option Bool
  | _, .obj _ _ => none
  | .int, .int _ => some true
  | .int, .bl _ => some true
  | .bool, .bl _ => some true
  | .str, .str _ => some true
  | .tuple, .tup _ => some true
  | .list, .lst _ => some true
  | .list, .scr _ => some true
  | .dict, .dct _ => some true
  | _, _ => some false

/-- a list of flagsD -/
def flagsD : List D → Option (List Bool)
  | [] => some []
  | .bl b :: r => (flagsD r).map (b :: ·)
  | _ => none
/-- whole numbers alone -/
def intsD : List D → Option (List Int)
  | [] => some []
  | .int b :: r => (intsD r).map (b :: ·)
  | _ => none

def lenD : List D → Option Val
  | [.lst xs] => some (.d (.int xs.length))
  | [.tup xs] => some (.d (.int xs.length))
  | _ => none
def absD : List D → Option Val
  | [.int i] => some (.d (.int (if i < 0 then -i else i)))
  | _ => none
def intD : List D → Option Val
  | [.int i] => some (.d (.int i))
  | [.bl b] => some (.d (.int (if b then 1 else 0)))
  | _ => none
def allD : List D → Option Val
  | [.lst xs] => (flagsD xs).map fun bs => .d (.bl (bs.all id))
  | _ => none
def anyD : List D → Option Val
  | [.lst xs] => (flagsD xs).map fun bs => .d (.bl (bs.any id))
  | _ => none
def sumD : List D → Option Val
  | [.lst xs] => (intsD xs).map fun bs => .d (.int bs.sum)
  | _ => none
def tupleD : List D → Option Val
  | [.lst xs] => some (.d (.tup xs))
  | [.tup xs] => some (.d (.tup xs))
  | _ => none
def listD : List D → Option Val
  | [.lst xs] => some (.o (.lst xs))
  | [.tup xs] => some (.o (.lst xs))
  | _ => none
/-- fit to be sorted: of one kind, all tuples with an item at least, or no tuples -/
def sortOk (xs : List D) : Bool := (xs.all fun a => a.eqOk && xs.all fun b => D.alike a b) && (xs.all (fun a => match a with | .tup (_ :: _) => true | _ => false) || xs.all (fun a => match a with | .tup _ | .non => false | _ => true)) && decide (xs.length ≤ sizeLine)
def leD (a b : D) : Bool := !D.ltb b a
/-- a dict's keys -/
def keyOk : D → Bool
  | .int _ | .str _ => true
  | _ => false
def dgetD (kvs : List (D × D)) (k : D) : Option D := (kvs.find? fun p => decide (p.1 = k)).map (·.2)
def dputD (kvs : List (D × D)) (k y : D) : List (D × D) := if (kvs.any fun p => decide (p.1 = k)) = true then kvs.map (fun p => if p.1 = k then (p.1, y) else p) else kvs ++ [(k, y)]
def dmergeD : List (D × D) → List (D × D) → List (D × D)
  | acc, [] => acc
  | acc, (k, y) :: r => dmergeD (dputD acc k y) r
def dzipD : List D → Option D
  | [.tup ks, .tup ys] => if ks.all keyOk && decide (ks.length = ys.length) && fits ks.length then some (.dct (dmergeD [] (ks.zip ys))) else none
  | _ => none
def sortI (xs : List Int) : List Int := xs.mergeSort fun a b => decide (a ≤ b)
def sortedD : List D → Option Val
  | [.dct kvs] => (intsD (kvs.map (·.1))).bind fun ks => if ks.length < 64 then some (.o (.lst ((sortI ks).map .int))) else none
  | [.lst xs] => if sortOk xs then some (.o (.lst (xs.mergeSort leD))) else none
  | _ => none
def prD : Pr → List D → Option Val
  | .len, xs => lenD xs
  | .abs, xs => absD xs
  | .int, xs => intD xs
  | .sum, xs => sumD xs
  | .all, xs => allD xs
  | .any, xs => anyD xs
  | .tuple, xs => tupleD xs
  | .list, xs => listD xs
  | .sorted, xs => sortedD xs
  | _, _ => none

def mtOk : Mt → D → Bool
  | .get2, .dct _ => true
  | _, _ => false
def mtD : Mt → D → List D → Option Val
  | .get2, .dct kvs, [k, y] => if keyOk k then some (.d ((dgetD kvs k).getD y)) else none
  | _, _, _ => none

def ixD : D → D → Option D
  | .dct kvs, k => if keyOk k then dgetD kvs k else none
  | .lst xs, .int i => (ixAt xs.length i).bind (xs[·]?)
  | .tup xs, .int i => (ixAt xs.length i).bind (xs[·]?)
  | _, _ => none

def slD (a : D) (lo hi : Option Int) : Option Val := match a with
  | .lst xs => some (.o (.lst (cutD xs lo hi)))
  | .scr ns => some (.o (.lst ((cutD ns lo hi).map .int)))
  | _ => none

/-! ### all the turns of a walk -/
def turnsSeq : List D → Option (List D)
  | [.lst xs] => some xs
  | [.tup xs] => some xs
  | _ => none
def turnsR1 : List D → Option (List D)
  | [.int n] => if -(2 ^ 62) ≤ n ∧ n < 2 ^ 62 then some ((List.range n.toNat).map fun (k : Nat) => .int k) else none
  | _ => none
def turnsR2 : List D → Option (List D)
  | [.int a, .int b] => if -(2 ^ 62) ≤ a ∧ a < 2 ^ 62 ∧ -(2 ^ 62) ≤ b ∧ b < 2 ^ 62 then some ((List.range (b - a).toNat).map fun (k : Nat) => .int (a + k)) else none
  | _ => none
def turnsZip : List D → Option (List D)
  | [.lst xs, .lst ys] => some (List.zipWith (fun x y => .tup [x, y]) xs ys)
  | [.tup xs, .tup ys] => some (List.zipWith (fun x y => .tup [x, y]) xs ys)
  | _ => none
def turnsEnum : List D → Option (List D)
  | [.lst xs] => some (xs.mapIdx fun i x => .tup [.int i, x])
  | [.tup xs] => some (xs.mapIdx fun i x => .tup [.int i, x])
  | _ => none
def turns : Ik → List D → Option (List D)
  | .seq, xs => turnsSeq xs
  | .range1, xs => turnsR1 xs
  | .range2, xs => turnsR2 xs
  | .zip, xs => turnsZip xs
  | .enum, xs => turnsEnum xs

/-! ### names -/
def setAll : List Nat → List D → Env → Option Env
  | [], [], ρ => some ρ
  | i :: is, x :: xs, ρ => setAll is xs (ρ.set i (some (.d x)))
  | _, _, _ => none
def Tg.bind : Tg → D → Env → Option Env
  | .v i, x, ρ => some (ρ.set i (some (.d x)))
  | .t is, .tup xs, ρ => setAll is xs ρ
  | .t _, _, _ => none
def wipeE (ρ : Env) : List Nat → Env
  | [] => ρ
  | i :: is => (wipeE ρ is).set i none

/-! ### expressions -/
def lcGo (bind : D → Option Env) (test : Env → Mem → Res Bool) (elt : Env → Mem → Res D) : List D → List D → Mem → Res (List D)
  | [], acc, M => .ok acc M
  | x :: xs, acc, M => (Res.of (bind x) M).bind fun ρ M => (test ρ M).bind fun t M =>
    if t then (elt ρ M).bind fun y M => if acc.length < sizeLine then lcGo bind test elt xs (acc ++ [y]) M else .bad
    else lcGo bind test elt xs acc M
def lc2Go (bind : D → Option Env) (inner : Env → List D → Mem → Res (List D)) : List D → List D → Mem → Res (List D)
  | [], acc, M => .ok acc M
  | x :: xs, acc, M => (Res.of (bind x) M).bind fun ρ M => (inner ρ acc M).bind fun acc M => lc2Go bind inner xs acc M

section
variable (T : Tab) (call : CallF)
mutual
def eval : E → Env → Mem → Res Val
  | .var i, ρ, M => match ρ[i]? with
    | some (some (.o x)) => .ok (.b x) M
    | some (some v) => .ok v M
    | _ => .bad
  | .c x, _, M => .ok (.d x) M
  | .g i, _, M => (Res.of (T.gl i) M).bind fun x M => .ok (.d x) M
  | .tup es, ρ, M => (evalDs es ρ M).bind fun xs M => if fits xs.length then .ok (.d (.tup xs)) M else .bad
  | .lst es, ρ, M => (evalDs es ρ M).bind fun xs M => if fits xs.length then .ok (.o (.lst xs)) M else .bad
  | .mlst es, ρ, M => (evalAs es ρ M).bind fun xs M => if fits xs.length then .ok (.r M.length) (M ++ [.lst xs]) else .bad
  | .mref e, ρ, M => (eval e ρ M).bind fun v M => match v with
    | .o (.lst xs) => .ok (.r M.length) (M ++ [.lst (xs.map .d)])
    | _ => .bad
  | .not a, ρ, M => (eval a ρ M).bind fun v M => (Res.of v.truth M).bind fun t M => .ok (.d (.bl !t)) M
  | .and a b, ρ, M => (eval a ρ M).bind fun v M => match v with
    | .d (.bl t) => if t then eval b ρ M else .ok (.d (.bl false)) M
    | _ => .bad
  | .or a b, ρ, M => (eval a ρ M).bind fun v M => match v with
    | .d (.bl t) => if t then .ok (.d (.bl true)) M else eval b ρ M
    | _ => .bad
  | .neg a, ρ, M => (eval a ρ M).bind fun v M => match v with
    | .d (.int i) => .ok (.d (.int (-i))) M
    | _ => .bad
  | .bin o a b, ρ, M => (eval a ρ M).bind fun x M => (Res.of x.peek M).bind fun x M => (eval b ρ M).bind fun y M => (Res.of y.peek M).bind fun y M => Res.of (binD o x y) M
  | .cmp o a b, ρ, M => (eval a ρ M).bind fun x M => (Res.of x.peek M).bind fun x M => (eval b ρ M).bind fun y M => (Res.of y.peek M).bind fun y M => (Res.of (cmpD o x y) M).bind fun t M => .ok (.d (.bl t)) M
  | .chain o p a b c, ρ, M => (eval a ρ M).bind fun x M => (Res.of x.peek M).bind fun x M => (eval b ρ M).bind fun y M => (Res.of y.peek M).bind fun y M => (Res.of (cmpD o x y) M).bind fun t M =>
    if t then (eval c ρ M).bind fun z M => (Res.of z.peek M).bind fun z M => (Res.of (cmpD p y z) M).bind fun t M => .ok (.d (.bl t)) M
    else .ok (.d (.bl false)) M
  | .ife c a b, ρ, M => (eval c ρ M).bind fun v M => (Res.of v.truth M).bind fun t M => if t then eval a ρ M else eval b ρ M
  | .ix a i, ρ, M => (eval a ρ M).bind fun v M => (eval i ρ M).bind fun k M => match v with
    | .r n => match M[n]?, k with
      | some (.lst xs), .d (.int i) => Res.of ((ixAt xs.length i).bind (xs[·]?)) M
      | _, _ => .bad
    | v => (Res.of v.peek M).bind fun x M => (Res.of k.peek M).bind fun k M => (Res.of (ixD x k) M).bind fun y M => .ok (.d y) M
  | .sl a lo hi, ρ, M => (eval a ρ M).bind fun v M => (Res.of v.peek M).bind fun x M => (evalO lo ρ M).bind fun l M => (evalO hi ρ M).bind fun h M => Res.of (slD x l h) M
  | .att a f, ρ, M => (eval a ρ M).bind fun v M => match v with
    | .d (.obj _ fs) => (Res.of (fs.lookup f) M).bind fun x M => .ok (.d x) M
    | .r n => match M[n]? with
      | some (.ins _ fs) => Res.of (fs.lookup f) M
      | _ => .bad
    | _ => .bad
  | .call f es, ρ, M => (evalAs es ρ M).bind fun xs M => call f xs M
  | .pr p es, ρ, M => (evalPs es ρ M).bind fun xs M => Res.of (prD p xs) M
  | .mt m a es, ρ, M => (eval a ρ M).bind fun v M => (Res.of v.peek M).bind fun x M => if mtOk m x then (evalDs es ρ M).bind fun xs M => Res.of (mtD m x xs) M else .bad
  | .isi a t, ρ, M => (eval a ρ M).bind fun v M => (Res.of v.peek M).bind fun x M => (Res.of (isT t x) M).bind fun t M => .ok (.d (.bl t)) M
  | .dzip es, ρ, M => (evalPs es ρ M).bind fun xs M => (Res.of (dzipD xs) M).bind fun x M => .ok (.o x) M
  | .lc e tg k args ifs own, ρ, M => (evalPs args ρ M).bind fun xs M => (Res.of (turns k xs) M).bind fun its M =>
      (lcGo (fun x => tg.bind x (wipeE ρ own)) (fun ρ M => (evalAll ifs ρ M).nox) (fun ρ M => ((eval e ρ M).bind fun v M => Res.of v.toD M).nox) its [] M).bind fun ys M => .ok (.o (.lst ys)) M
  | .lc2 e tg k args tg2 k2 args2 own own2, ρ, M => (evalPs args ρ M).bind fun xs M => (Res.of (turns k xs) M).bind fun its M =>
      (lc2Go (fun x => tg.bind x (wipeE ρ own)) (fun ρ acc M => ((evalDs args2 ρ M).bind fun xs M => Res.of (turns k2 xs) M).nox.bind fun its2 M =>
        lcGo (fun x => tg2.bind x (wipeE ρ own2)) (fun _ M => .ok true M) (fun ρ M => ((eval e ρ M).bind fun v M => Res.of v.toD M).nox) its2 acc M) its [] M).bind fun ys M => .ok (.o (.lst ys)) M
termination_by structural x => x
/-- values to be kept -/
def evalDs : List E → Env → Mem → Res (List D)
  | [], _, M => .ok [] M
  | e :: es, ρ, M => (eval e ρ M).bind fun v M => (Res.of v.toD M).bind fun x M => (evalDs es ρ M).bind fun xs M => .ok (x :: xs) M
termination_by structural x => x
/-- values to be looked at -/
def evalPs : List E → Env → Mem → Res (List D)
  | [], _, M => .ok [] M
  | e :: es, ρ, M => (eval e ρ M).bind fun v M => (Res.of v.peek M).bind fun x M => (evalPs es ρ M).bind fun xs M => .ok (x :: xs) M
termination_by structural x => x
/-- values to be handed on -/
def evalAs : List E → Env → Mem → Res (List Val)
  | [], _, M => .ok [] M
  | e :: es, ρ, M => (eval e ρ M).bind fun v M => (Res.of v.toArg M).bind fun x M => (evalAs es ρ M).bind fun xs M => .ok (x :: xs) M
termination_by structural x => x
/-- tests, one behind another -/
def evalAll : List E → Env → Mem → Res Bool
  | [], _, M => .ok true M
  | e :: es, ρ, M => (eval e ρ M).bind fun v M => (Res.of v.truth M).bind fun t M => if t then evalAll es ρ M else .ok false M
termination_by structural x => x
/-- a part of a slice -/
def evalO : List E → Env → Mem → Res (Option Int)
  | [], _, M => .ok none M
  | e :: _, ρ, M => (eval e ρ M).bind fun v M => match v with
    | .d (.int i) => .ok (some i) M
    | _ => .bad
termination_by structural x => x
end

/-! ### statements -/
inductive Fl where | nx | brk | cnt | ret (v : Val)
inductive RS where
  | ok (f : Fl) (ρ : Env) (M : Mem) | ex (c : Nat) (fs : List (Nat × D)) (ρ : Env) (M : Mem) | bad
/-- an expression's outcome in a statement -/
def Res.go {α : Type} (r : Res α) (ρ : Env) (k : α → Mem → RS) : RS := match r with
  | .ok a M => k a M
  | .ex c fs M => .ex c fs ρ M
  | .bad => .bad
@[simp] theorem Res.go_ok {α : Type} (a : α) (M : Mem) (ρ : Env) (k : α → Mem → RS) : (Res.ok a M).go ρ k = k a M := Eq.trans rfl rfl
@[simp] theorem Res.go_ex {α : Type} (c : Nat) (fs : List (Nat × D)) (M : Mem) (ρ : Env) (k : α → Mem → RS) : (Res.ex c fs M : Res α).go ρ k = .ex c fs ρ M := Eq.trans rfl rfl
@[simp] theorem Res.go_bad {α : Type} (ρ : Env) (k : α → Mem → RS) : (Res.bad : Res α).go ρ k = .bad := Eq.trans rfl rfl
@[simp] theorem Res.go_ite {α : Type} (c : Prop) [Decidable c] (x y : Res α) (ρ : Env) (k : α → Mem → RS) : (if c then x else y).go ρ k = if c then x.go ρ k else y.go ρ k := by
  split <;> rfl
theorem Res.go_bind {α β : Type} (r : Res α) (f : α → Mem → Res β) (ρ : Env) (k : β → Mem → RS) : (r.bind f).go ρ k = r.go ρ fun a M => (f a M).go ρ k := by
  cases r <;> rfl
/-- what follows -/
def RS.nx (r : RS) (k : Env → Mem → RS) : RS := match r with
  | .ok .nx ρ M => k ρ M
  | r => r
@[simp] theorem RS.nx_nx (ρ : Env) (M : Mem) (k : Env → Mem → RS) : (RS.ok .nx ρ M).nx k = k ρ M := Eq.trans rfl rfl
@[simp] theorem RS.nx_ret (v : Val) (ρ : Env) (M : Mem) (k : Env → Mem → RS) : (RS.ok (.ret v) ρ M).nx k = .ok (.ret v) ρ M := Eq.trans rfl rfl
@[simp] theorem RS.nx_brk (ρ : Env) (M : Mem) (k : Env → Mem → RS) : (RS.ok .brk ρ M).nx k = .ok .brk ρ M := Eq.trans rfl rfl
@[simp] theorem RS.nx_cnt (ρ : Env) (M : Mem) (k : Env → Mem → RS) : (RS.ok .cnt ρ M).nx k = .ok .cnt ρ M := Eq.trans rfl rfl
@[simp] theorem RS.nx_ex (c : Nat) (fs : List (Nat × D)) (ρ : Env) (M : Mem) (k : Env → Mem → RS) : (RS.ex c fs ρ M).nx k = .ex c fs ρ M := Eq.trans rfl rfl
@[simp] theorem RS.nx_bad (k : Env → Mem → RS) : RS.bad.nx k = .bad := Eq.trans rfl rfl
@[simp] theorem RS.nx_ite (c : Prop) [Decidable c] (x y : RS) (k : Env → Mem → RS) : (if c then x else y).nx k = if c then x.nx k else y.nx k := by
  split <;> rfl
/-- behind a turn -/
def RS.turn (r : RS) (k : Env → Mem → RS) : RS := match r with
  | .ok .nx ρ M => k ρ M
  | .ok .cnt ρ M => k ρ M
  | .ok .brk ρ M => .ok .nx ρ M
  | r => r
@[simp] theorem RS.turn_nx (ρ : Env) (M : Mem) (k : Env → Mem → RS) : (RS.ok .nx ρ M).turn k = k ρ M := Eq.trans rfl rfl
@[simp] theorem RS.turn_cnt (ρ : Env) (M : Mem) (k : Env → Mem → RS) : (RS.ok .cnt ρ M).turn k = k ρ M := Eq.trans rfl rfl
@[simp] theorem RS.turn_brk (ρ : Env) (M : Mem) (k : Env → Mem → RS) : (RS.ok .brk ρ M).turn k = .ok .nx ρ M := Eq.trans rfl rfl
@[simp] theorem RS.turn_ret (v : Val) (ρ : Env) (M : Mem) (k : Env → Mem → RS) : (RS.ok (.ret v) ρ M).turn k = .ok (.ret v) ρ M := Eq.trans rfl rfl
@[simp] theorem RS.turn_ex (c : Nat) (fs : List (Nat × D)) (ρ : Env) (M : Mem) (k : Env → Mem → RS) : (RS.ex c fs ρ M).turn k = .ex c fs ρ M := Eq.trans rfl rfl
@[simp] theorem RS.turn_bad (k : Env → Mem → RS) : RS.bad.turn k = .bad := Eq.trans rfl rfl
@[simp] theorem RS.turn_ite (c : Prop) [Decidable c] (x y : RS) (k : Env → Mem → RS) : (if c then x else y).turn k = if c then x.turn k else y.turn k := by
  split <;> rfl
def forGo (bind : D → Env → Option Env) (body : Env → Mem → RS) : List D → Env → Mem → RS
  | [], ρ, M => .ok .nx ρ M
  | x :: xs, ρ, M => (Res.of (bind x ρ) M).go ρ fun ρ M => (body ρ M).turn fun ρ M => forGo bind body xs ρ M
def whileGo (test : Env → Mem → Res Bool) (body : Env → Mem → RS) : Nat → Env → Mem → RS
  | 0, _, _ => .bad
  | n + 1, ρ, M => (test ρ M).go ρ fun t M => if t then (body ρ M).turn fun ρ M => whileGo test body n ρ M else .ok .nx ρ M
/-- more turns than any while takes -/
@[irreducible] def WF : Nat := 2 ^ (2 ^ 24)

/-- a method that changes a list of a local name: what it holds then -/
def muD : Mu → List D → List D → Option (List D)
  | .append, xs, [y] => if xs.length < sizeLine then some (xs ++ [y]) else none
  | .extend, xs, [.lst ys] => if fits (xs.length + ys.length) then some (xs ++ ys) else none
  | .clear, _, [] => some []
  | _, _, _ => none
def setD : D → D → D → Option D
  | .dct kvs, k, y => if keyOk k && decide (kvs.length < sizeLine) then some (.dct (dputD kvs k y)) else none
  | .lst xs, .int i, y => (ixAt xs.length i).map fun j => .lst (xs.set j y)
  | _, _, _ => none

mutual
def exec : S → Env → Mem → RS
  | .asg (.v i) e, ρ, M => (eval T call e ρ M).go ρ fun v M => (Res.of v.toArg M).go ρ fun v M => .ok .nx (ρ.set i (some v)) M
  | .asg (.t is) e, ρ, M => (eval T call e ρ M).go ρ fun v M => (Res.of v.toD M).go ρ fun x M => (Res.of (Tg.bind (.t is) x ρ) M).go ρ fun ρ M => .ok .nx ρ M
  | .own i e, ρ, M => (eval T call e ρ M).go ρ fun v M => match v with
    | .o x => .ok .nx (ρ.set i (some (.o x))) M
    | _ => .bad
  | .asg2 i j a b, ρ, M => (evalAs T call [a, b] ρ M).go ρ fun vs M => match vs with
    | [x, y] => .ok .nx ((ρ.set i (some x)).set j (some y)) M
    | _ => .bad
  | .frz i, ρ, M => match ρ[i]? with
    | some (some (.o x)) => .ok .nx (ρ.set i (some (.d x))) M
    | _ => .bad
  | .kill is, ρ, M => .ok .nx (wipeE ρ is) M
  | .ret e, ρ, M => (eval T call e ρ M).go ρ fun v M => .ok (.ret v) ρ M
  | .retmv i, ρ, M => match ρ[i]? with
    | some (some (.o x)) => .ok (.ret (.o x)) ρ M
    | _ => .bad
  | .expr e, ρ, M => (eval T call e ρ M).go ρ fun _ M => .ok .nx ρ M
  | .ifs c a b, ρ, M => (eval T call c ρ M).go ρ fun v M => (Res.of v.truth M).go ρ fun t M => if t then execs a ρ M else execs b ρ M
  | .fors tg k args body, ρ, M => (evalDs T call args ρ M).go ρ fun xs M => (Res.of (turns k xs) M).go ρ fun its M => forGo tg.bind (fun ρ M => execs body ρ M) its ρ M
  | .whiles c body, ρ, M => whileGo (fun ρ M => (eval T call c ρ M).bind fun v M => Res.of v.truth M) (fun ρ M => execs body ρ M) WF ρ M
  | .brk, ρ, M => .ok .brk ρ M
  | .cnt, ρ, M => .ok .cnt ρ M
  | .pas, ρ, M => .ok .nx ρ M
  | .never, _, _ => .bad
  | .mu m i es, ρ, M => match ρ[i]? with
    | some (some (.o (.lst xs))) => (evalDs T call es ρ M).go ρ fun ys M => (Res.of (muD m xs ys) M).go ρ fun xs M => .ok .nx (ρ.set i (some (.o (.lst xs)))) M
    | _ => .bad
  | .setix i k e, ρ, M => (eval T call e ρ M).go ρ fun v M => (Res.of v.toD M).go ρ fun y M => match ρ[i]? with
    | some (some (.o x)) => (eval T call k ρ M).go ρ fun k M => (Res.of k.toD M).go ρ fun k M => (Res.of (setD x k y) M).go ρ fun x M => .ok .nx (ρ.set i (some (.o x))) M
    | _ => .bad
  | .setixm x k e, ρ, M => (eval T call e ρ M).go ρ fun v M => (Res.of v.toArg M).go ρ fun y M => (eval T call x ρ M).go ρ fun v M => (eval T call k ρ M).go ρ fun k M => match v, k with
    | .r n, .d (.int i) => match M[n]? with
      | some (.lst xs) => (Res.of (ixAt xs.length i) M).go ρ fun j M => .ok .nx ρ (M.set n (.lst (xs.set j y)))
      | _ => .bad
    | _, _ => .bad
  | .raise c es, ρ, M => (evalDs T call es ρ M).go ρ fun xs M => match T.exf c with
    | some fs => if fs.length = xs.length then .ex c (fs.zip xs) ρ M else .bad
    | none => .bad
termination_by structural x => x
def execs : List S → Env → Mem → RS
  | [], ρ, M => .ok .nx ρ M
  | s :: ss, ρ, M => (exec s ρ M).nx fun ρ M => execs ss ρ M
termination_by structural x => x
end
end
/-- what a def's run gives back -/
def RS.res : RS → Res Val
  | .ok .nx _ M => .ok (.d .non) M
  | .ok (.ret v) _ M => .ok v M
  | .ex c fs _ M => .ex c fs M
  | _ => .bad
@[simp] theorem RS.res_nx (ρ : Env) (M : Mem) : (RS.ok .nx ρ M).res = .ok (.d .non) M := Eq.trans rfl rfl
@[simp] theorem RS.res_ret (v : Val) (ρ : Env) (M : Mem) : (RS.ok (.ret v) ρ M).res = .ok v M := Eq.trans rfl rfl
@[simp] theorem RS.res_ex (c : Nat) (fs : List (Nat × D)) (ρ : Env) (M : Mem) : (RS.ex c fs ρ M).res = .ex c fs M := Eq.trans rfl rfl
@[simp] theorem RS.res_bad : RS.bad.res = .bad := Eq.trans rfl rfl
@[simp] theorem RS.res_ite (c : Prop) [Decidable c] (x y : RS) : (if c then x else y).res = if c then x.res else y.res := by
  split <;> rfl
/-- a call with so many calls within one another -/
def callF (T : Tab) : Nat → CallF
  | 0, _, _, _ => .bad
  | n + 1, f, vs, M => match T.fn f with
    | none => .bad
    | some fd => if vs.length = fd.np then (execs T (callF T n) fd.body (vs.map some ++ List.replicate (fd.nn - vs.length) none) M).res else .bad
end Fm
end

/-! ## part LD -/
section
set_option maxHeartbeats 4000000
namespace Fm
open PySem PySem.Spec L2

/-! ### what a value stands for, behind an evaluation that began at H0 -/
section
variable (N : Nm) (w : World) (K : PySem.W.Frag)
def VR (G : Hp) (as : List Addr) (H0 H : Hp) : V → Val → Prop
  | v, .d x => Rep N w K G v x
  | v, .r n => ∃ a, as[n]? = some a ∧ v = .ref a
  | v, .o x => ∃ a, v = .ref a ∧ Top N w K G H a x ∧ G a = none ∧ a ∉ as ∧ H0 a = none
  | v, .b x => ∃ a, v = .ref a ∧ Top N w K G H a x ∧ a ∉ as
/-- looked at only -/
def RP (G : Hp) (as : List Addr) (H : Hp) (v : V) (x : D) : Prop := Rep N w K G v x ∨ ∃ a, v = .ref a ∧ Top N w K G H a x ∧ a ∉ as
/-- in a slot; He: the heap at the def's entry -/
def SlotV (G : Hp) (as : List Addr) (He H : Hp) : V → Val → Prop
  | v, .d x => Rep N w K G v x
  | v, .r n => ∃ a, as[n]? = some a ∧ v = .ref a
  | v, .o x => ∃ a, v = .ref a ∧ Top N w K G H a x ∧ G a = none ∧ a ∉ as ∧ He a = none
  | _, .b _ => False
structure EnvOk (G : Hp) (as : List Addr) (He H : Hp) (σ : St) (ρ : Env) : Prop where
  len : σ.length = ρ.length
  val : ∀ (i : Nat) (v : Val), ρ[i]? = some (some v) → ∃ x, σ[i]? = some (some x) ∧ SlotV N w K G as He H x v
  dis : ∀ (i j : Nat) (x y : D) (a : Addr), ρ[i]? = some (some (.o x)) → ρ[j]? = some (some (.o y)) → σ[i]? = some (some (.ref a)) → σ[j]? = some (some (.ref a)) → i = j
  live : ∀ a o, He a = some o → ∃ o', H a = some o'
/-- the error's fields -/
def ExR (G : Hp) (H : Hp) (d : Option Addr) (fs : List (Nat × D)) : Prop := (fs = [] ∧ d = none) ∨ ∃ a f x v, fs = [(f, x)] ∧ d = some a ∧ H a = some (.xd [(N.att f, v)]) ∧ Rep N w K G v x
end
section
variable {N : Nm} {w : World} {K : PySem.W.Frag} {as as1 : List Addr} {G G1 H0 H H1 He : Hp}
theorem Stp.kept (s : Stp as G H as1 G1 H1) {a : Addr} (n : a ∉ as) : ∀ o, H a = some o → H1 a = some o := fun o e => s.keep a o e n
theorem Stp.notin (s : Stp as G H as1 G1 H1) {a : Addr} {o : HO} (n : a ∉ as) (e : H a = some o) : a ∉ as1 := fun h => by
  rcases s.new a h with q | q
  · exact n q
  · rw [e] at q; cases q
theorem VR.stp {v : V} {x : Val} (h : VR N w K G as H0 H v x) (s : Stp as G H as1 G1 H1) : VR N w K G1 as1 H0 H1 v x := by
  cases x with
  | d x => exact Rep.sub s.ext (show Rep N w K G v x from h)
  | r n => obtain ⟨a, h1, h2⟩ := h; exact ⟨a, s.as_get h1, h2⟩
  | o x =>
    obtain ⟨a, h1, h2, h3, h4, h5⟩ := h
    obtain ⟨o, e⟩ := h2.some
    exact ⟨a, h1, h2.stp (s.kept h4) s.ext, s.free a o e h3, s.notin h4 e, h5⟩
  | b x =>
    obtain ⟨a, h1, h2, h4⟩ := h
    obtain ⟨o, e⟩ := h2.some
    exact ⟨a, h1, h2.stp (s.kept h4) s.ext, s.notin h4 e⟩
theorem VR.back {v : V} {x : Val} {as0 : List Addr} {G0 Ha : Hp} (h : VR N w K G1 as1 H0 H1 v x) (s : Stp as0 G0 Ha as G H0) : VR N w K G1 as1 Ha H1 v x := by
  cases x with
  | o x =>
    obtain ⟨a, h1, h2, h3, h4, h5⟩ := h
    refine ⟨a, h1, h2, h3, h4, ?_⟩
    cases e : Ha a with
    | none => rfl
    | some o =>
      obtain ⟨o', e'⟩ := s.live a o e
      rw [e'] at h5; cases h5
  | _ => exact h
theorem RP.stp {v : V} {x : D} (h : RP N w K G as H v x) (s : Stp as G H as1 G1 H1) : RP N w K G1 as1 H1 v x := by
  rcases h with h | ⟨a, h1, h2, h4⟩
  · exact .inl (Rep.sub s.ext h)
  · obtain ⟨o, e⟩ := h2.some
    exact .inr ⟨a, h1, h2.stp (s.kept h4) s.ext, s.notin h4 e⟩
theorem VR.peek {v : V} {x : Val} {d : D} (h : VR N w K G as H0 H v x) (p : x.peek = some d) : RP N w K G as H v d := by
  cases x with
  | d x => cases p; exact .inl h
  | r n => cases p
  | o x => cases p; obtain ⟨a, h1, h2, h3, h4, h5⟩ := h; exact .inr ⟨a, h1, h2, h4⟩
  | b x => cases p; obtain ⟨a, h1, h2, h4⟩ := h; exact .inr ⟨a, h1, h2, h4⟩
theorem Top.sub {a : Addr} {d : D} (h : Top N w K G H a d) (s : Sub G H) : Rep N w K H (.ref a) d := by
  cases d with
  | lst ds => obtain ⟨vs, h1, h2⟩ := h; exact .lst h1 (Reps.sub s h2)
  | dct ds => obtain ⟨vs, h1, h2⟩ := h; exact .dct rfl h1 (RepE.sub s h2)
  | obj c fs => obtain ⟨dx, vs, h1, h2⟩ := h; exact .obj h1 (RepF.sub s h2)
  | _ => exact h.elim
/-- looked at, it stands in the heap -/
theorem RP.rep {v : V} {x : D} (h : RP N w K G as H v x) (s : Sub G H) : Rep N w K H v x := by
  rcases h with h | ⟨a, rfl, h2, _⟩
  · exact Rep.sub s h
  · exact h2.sub s
theorem RP.lst {v : V} {xs : List D} (h : RP N w K G as H v (.lst xs)) (s : Sub G H) : ∃ a vs, v = .ref a ∧ H a = some (.lst vs) ∧ Reps N w K G vs xs := by
  rcases h with h | ⟨a, rfl, ⟨vs, h1, h2⟩, _⟩
  · cases h with | lst h1 h2 => exact ⟨_, _, rfl, s _ _ h1, h2⟩
  · exact ⟨a, vs, rfl, h1, h2⟩
theorem RP.tup {v : V} {xs : List D} (h : RP N w K G as H v (.tup xs)) : Rep N w K G v (.tup xs) := by
  rcases h with h | ⟨a, rfl, h1, _⟩
  · exact h
  · exact h1.elim
theorem RP.int {v : V} {i : Int} (h : RP N w K G as H v (.int i)) : v = .int i := by
  rcases h with h | ⟨a, rfl, h1, _⟩
  · cases h; rfl
  · exact h1.elim
theorem RP.bl {v : V} {i : Bool} (h : RP N w K G as H v (.bl i)) : v = .bl i := by
  rcases h with h | ⟨a, rfl, h1, _⟩
  · cases h; rfl
  · exact h1.elim
theorem RP.str {v : V} {i : Str} (h : RP N w K G as H v (.str i)) : v = .str i := by
  rcases h with h | ⟨a, rfl, h1, _⟩
  · cases h; rfl
  · exact h1.elim
theorem RP.non {v : V} (h : RP N w K G as H v .non) : v = .non := by
  rcases h with h | ⟨a, rfl, h1, _⟩
  · cases h; rfl
  · exact h1.elim
theorem RP.scr {v : V} {ns : List Int} (h : RP N w K G as H v (.scr ns)) (s : Sub G H) : ∃ a, v = .ref a ∧ SqL K H a (ns.map V.int) := by
  rcases h with h | ⟨a, rfl, h1, _⟩
  · cases h with | scr h1 => exact ⟨_, rfl, SqL.sub h1 s⟩
  · exact h1.elim
theorem Rep.tup_inv {v : V} {xs : List D} (h : Rep N w K G v (.tup xs)) : ∃ a vs, v = .ref a ∧ SqT K G a vs ∧ Reps N w K G vs xs := by
  cases h with | tup h1 h2 => exact ⟨_, _, rfl, h1, h2⟩
theorem EnvOk.stp {σ : St} {ρ : Env} (h : EnvOk N w K G as He H σ ρ) (s : Stp as G H as1 G1 H1) : EnvOk N w K G1 as1 He H1 σ ρ where
  len := h.len
  val := fun i v e => by
    obtain ⟨x, h1, h2⟩ := h.val i v e
    refine ⟨x, h1, ?_⟩
    cases v with
    | d x => exact Rep.sub s.ext h2
    | r n => obtain ⟨a, k1, k2⟩ := h2; exact ⟨a, s.as_get k1, k2⟩
    | o x =>
      obtain ⟨a, k1, k2, k3, k4, k5⟩ := h2
      obtain ⟨o, e⟩ := k2.some
      exact ⟨a, k1, k2.stp (s.kept k4) s.ext, s.free a o e k3, s.notin k4 e, k5⟩
    | b x => exact h2
  dis := h.dis
  live := fun a o e => by
    obtain ⟨o', e'⟩ := h.live a o e
    exact s.live a o' e'
/-- a new thing is frozen -/
theorem upd_sub {a : Addr} {o : HO} (n : G a = none) : Sub G (upd G a o) := fun b u q => by rw [upd_ne (ne_of_none q n)]; exact q
theorem Wf.freeze {M : Mem} {a : Addr} {o : HO} (h : Wf N w K G H as M) (e : H a = some o) (n : G a = none) (na : a ∉ as) : Wf N w K (upd G a o) H as M where
  sub := fun b u q => by
    by_cases hb : b = a
    · subst hb; rw [upd_same] at q; cases q; exact e
    · rw [upd_ne hb] at q; exact h.sub b u q
  len := h.len
  mem := fun i b c h1 h2 => (h.mem i b c h1 h2).mono (fun _ z => z) (upd_sub n) fun _ _ z => z
  nd := h.nd
  out := fun b hb => by
    rw [upd_ne (show b ≠ a from fun z => na (by rw [← z]; exact hb))]
    exact h.out b hb
theorem Stp.freeze {as0 : List Addr} {G0 Ha : Hp} {a : Addr} {o : HO} (s : Stp as0 G0 Ha as G H) (n : G a = none) (na : Ha a = none) : Stp as0 G0 Ha as (upd G a o) H where
  ext := s.ext.trans (upd_sub n)
  pre := s.pre
  keep := s.keep
  free := fun b u h1 h2 => by
    rw [upd_ne (ne_of_none h1 na)]
    exact s.free b u h1 h2
  new := s.new
  live := s.live
theorem Top.freeze {a : Addr} {d : D} (h : Top N w K G H a d) (n : G a = none) : ∃ o : HO, H a = Option.some o ∧ Rep N w K (upd G a o) (.ref a) d := by
  obtain ⟨o, e⟩ := h.some
  refine ⟨o, e, ?_⟩
  cases d with
  | lst ds => obtain ⟨vs, h1, h2⟩ := h; rw [e] at h1; cases h1; exact .lst upd_same (Reps.sub (upd_sub n) h2)
  | dct ds => obtain ⟨vs, h1, h2⟩ := h; rw [e] at h1; cases h1; exact .dct rfl upd_same (RepE.sub (upd_sub n) h2)
  | obj c fs => obtain ⟨dx, vs, h1, h2⟩ := h; rw [e] at h1; cases h1; exact .obj upd_same (RepF.sub (upd_sub n) h2)
  | _ => exact h.elim
/-- what is to be kept is frozen -/
theorem VR.toArg {v : V} {x y : Val} {M : Mem} {as0 : List Addr} {G0 : Hp} (h : VR N w K G as H0 H v x) (p : x.toArg = some y) (f : Wf N w K G H as M) (s : Stp as0 G0 H0 as G H) :
    ∃ G2, Stp as0 G0 H0 as G2 H ∧ Wf N w K G2 H as M ∧ Stv N w K G2 as v y := by
  cases x with
  | d x => cases p; exact ⟨G, s, f, h⟩
  | r n => cases p; exact ⟨G, s, f, h⟩
  | o x =>
    cases p
    obtain ⟨a, rfl, h2, h3, h4, h5⟩ := h
    obtain ⟨o, e, r⟩ := h2.freeze h3
    exact ⟨_, s.freeze h3 h5, f.freeze e h3 h4, r⟩
  | b x => cases p
theorem VR.toD {v : V} {x : Val} {y : D} {M : Mem} {as0 : List Addr} {G0 : Hp} (h : VR N w K G as H0 H v x) (p : x.toD = some y) (f : Wf N w K G H as M) (s : Stp as0 G0 H0 as G H) :
    ∃ G2, Stp as0 G0 H0 as G2 H ∧ Wf N w K G2 H as M ∧ Rep N w K G2 v y := by
  have q : x.toArg = some (.d y) := by cases x <;> cases p <;> rfl
  exact h.toArg q f s
end

/-! ### the readings -/
/-- what is known of the context: names, scope, the promise of every def -/
structure Cd (P : Program) (w : World) (K : PySem.W.Frag) (mg : Str → Option Value) (base : Heap) (X : Cx) (ns : List Str) (sc : Scope) : Prop where
  prog : X.prog = P
  w : X.w = w
  K : X.K = K
  mg : X.mg = mg
  base : X.base = base
  nseq : X.N = ns
  nd : List.Nodup ns
  sc : X.env.scope = sc
  calm : X.calm = true

section
variable (N : Nm) (w : World) (K : PySem.W.Frag) (W : WX)
/-- an evaluation's outcome: what is wanted of it -/
def Good {α : Type} (σ : St) (as : List Addr) (G H : Hp) (r : Res α) (Q : α → Mem → Hp → List Addr → Hp → Prop) : Prop := match r with
  | .ok v M => ∀ H' G' as', Stp as G H as' G' H' → Wf N w K G' H' as' M → Q v M G' as' H'
  | .ex c fs M => ∀ d H' G' as', Stp as G H as' G' H' → Wf N w K G' H' as' M → ExR N w K G' H' d fs → W (.ref (N.cls c)) d σ H'
  | .bad => False
end
section
variable {N : Nm} {w : World} {K : PySem.W.Frag} {W : WX} {σ : St} {as as1 : List Addr} {G G1 H H1 : Hp}
theorem Good.stp {α : Type} {r : Res α} {Q : α → Mem → Hp → List Addr → Hp → Prop} (h : Good N w K W σ as G H r Q) (s : Stp as G H as1 G1 H1) : Good N w K W σ as1 G1 H1 r Q := by
  cases r with
  | ok v M => exact fun H' G' as' t f => h H' G' as' (s.trans t) f
  | ex c fs M => exact fun d H' G' as' t f e => h d H' G' as' (s.trans t) f e
  | bad => exact h
theorem Good.bind {α β : Type} {r : Res α} {k : α → Mem → Res β} {Q : β → Mem → Hp → List Addr → Hp → Prop} {Q1 : α → Mem → Hp → List Addr → Hp → Prop} (h : Good N w K W σ as G H (r.bind k) Q)
    (i : ∀ v M H1 G1 as1, r = .ok v M → Stp as G H as1 G1 H1 → Wf N w K G1 H1 as1 M → Good N w K W σ as G H (k v M) Q → Q1 v M G1 as1 H1) : Good N w K W σ as G H r Q1 := by
  cases r with
  | ok v M => exact fun H1 G1 as1 s f => i v M H1 G1 as1 rfl s f h
  | ex c fs M => exact h
  | bad => exact h
theorem Good.of {α β : Type} {o : Option α} {M : Mem} {k : α → Mem → Res β} {Q : β → Mem → Hp → List Addr → Hp → Prop} (h : Good N w K W σ as G H ((Res.of o M).bind k) Q) : ∃ a, o = some a ∧ Good N w K W σ as G H (k a M) Q := by
  cases o with
  | none => exact h.elim
  | some a => exact ⟨a, rfl, h⟩
theorem Good.ite {α : Type} {c : Prop} [Decidable c] {x : Res α} {Q : α → Mem → Hp → List Addr → Hp → Prop} (h : Good N w K W σ as G H (if c then x else .bad) Q) : c ∧ Good N w K W σ as G H x Q := by
  by_cases hc : c
  · rw [if_pos hc] at h; exact ⟨hc, h⟩
  · rw [if_neg hc] at h; exact h.elim
end

section
variable (N : Nm) (T : Tab) (call : CallF) (W : WX) (X : Cx)
def tE (e : E) : TE := fun σ H Q => ∃ ρ M G as He, EnvOk N X.w X.K G as He H σ ρ ∧ Wf N X.w X.K G H as M ∧
  Good N X.w X.K W σ as G H (eval T call e ρ M) fun v _ G' as' H' => ∀ x, VR N X.w X.K G' as' H H' x v → Q x H'
def tT (e : E) : TT := fun σ H Q => ∃ ρ M G as He, EnvOk N X.w X.K G as He H σ ρ ∧ Wf N X.w X.K G H as M ∧
  Good N X.w X.K W σ as G H (eval T call e ρ M) fun v _ G' as' H' => ∃ b, v.truth = some b ∧ Q b H'
end
theorem PE.imp {X : Cx} {e : Expr} {t t' : TE} (h : PE X e t) (i : ∀ σ H Q, t' σ H Q → t σ H Q) : PE X e t' := ⟨fun pins s σ H Q I q => h.run pins s σ H Q I (i σ H Q q)⟩
theorem PT.imp {X : Cx} {e : Expr} {t t' : TT} (h : PT X e t) (i : ∀ σ H Q, t' σ H Q → t σ H Q) : PT X e t' := ⟨fun pins s σ H Q I q => h.run pins s σ H Q I (i σ H Q q)⟩
theorem PA.imp {X : Cx} {e : List Expr} {t t' : TA} (h : PA X e t) (i : ∀ σ H Q, t' σ H Q → t σ H Q) : PA X e t' := ⟨fun pos pins s σ H Q I q => h.run pos pins s σ H Q I (i σ H Q q)⟩
/-- the slots, behind a freezing -/
theorem EnvOk.ext {N : Nm} {w : World} {K : PySem.W.Frag} {as as1 : List Addr} {G G1 G2 H H1 He : Hp} {σ : St} {ρ : Env} (h : EnvOk N w K G as He H σ ρ) (s : Stp as G H as1 G2 H1) : EnvOk N w K G2 as1 He H1 σ ρ := h.stp s
end Fm
end

/-! ## part LE -/
section
set_option maxHeartbeats 4000000
namespace Fm
open PySem PySem.Spec L2

def notStar : Expr → Bool
  | .Starred _ _ => false
  | _ => true
theorem starEach_of {e : Expr} {es : List Expr} {env : PySem.Env} (h : notStar e = true) : starEach (e :: es) env = (false, PySem.eval e env) :: starEach es env := by
  cases e <;> first | rfl | cases h

section
variable (N : Nm) (T : Tab) (call : CallF) (W : WX) (X : Cx)
def tDs (es : List E) : TA := fun σ H Q => ∃ ρ M G as He, EnvOk N X.w X.K G as He H σ ρ ∧ Wf N X.w X.K G H as M ∧
  Good N X.w X.K W σ as G H (evalDs T call es ρ M) fun xs _ G' as' H' => ∀ vs, Reps N X.w X.K G' vs xs → Q vs H'
def tAs (es : List E) : TA := fun σ H Q => ∃ ρ M G as He, EnvOk N X.w X.K G as He H σ ρ ∧ Wf N X.w X.K G H as M ∧
  Good N X.w X.K W σ as G H (evalAs T call es ρ M) fun xs _ G' as' H' => ∀ vs, Paired (Stv N X.w X.K G' as') vs xs → Q vs H'
def tPs (es : List E) : TA := fun σ H Q => ∃ ρ M G as He, EnvOk N X.w X.K G as He H σ ρ ∧ Wf N X.w X.K G H as M ∧
  Good N X.w X.K W σ as G H (evalPs T call es ρ M) fun xs _ G' as' H' => ∀ vs, Paired (RP N X.w X.K G' as' H') vs xs → Q vs H'
end
section
variable {N : Nm} {T : Tab} {call : CallF} {W : WX} {X : Cx} {pos : Pos}

theorem se_var {i : Nat} {x : Str} (hN : X.N[i]? = some x) (hv : Vis X.env.scope x) (hd : (x == ("__debug__" : Str)) = false) (hcd : (x == ("__classdict__" : Str)) = false) : PE X (.Name x pos) (tE N T call W X (.var i)) := by
  refine PE.imp (pe_var hN hv hd hcd) fun σ H Q ⟨ρ, M, G, as, He, en, wf, h⟩ => ?_
  rw [eval] at h
  cases e : ρ[i]? with
  | none => rw [e] at h; exact h.elim
  | some o =>
    cases o with
    | none => rw [e] at h; exact h.elim
    | some v =>
      obtain ⟨x, h1, h2⟩ := en.val i v e
      refine ⟨x, h1, ?_⟩
      rw [e] at h
      cases v with
      | d y => exact h H G as Stp.refl wf x h2
      | r n => exact h H G as Stp.refl wf x h2
      | o y =>
        obtain ⟨a, k1, k2, k3, k4, k5⟩ := h2
        exact h H G as Stp.refl wf x ⟨a, k1, k2, k4⟩
      | b y => exact h2.elim
theorem se_non {j : Nat} : PE X (.Constant .none j pos) (tE N T call W X (.c .non)) :=
  PE.imp pe_non fun σ H Q ⟨ρ, M, G, as, He, en, wf, h⟩ => h H G as Stp.refl wf _ (show Rep _ _ _ _ _ _ from .non)
theorem se_bl {j : Nat} {b : Bool} : PE X (.Constant (.bool b) j pos) (tE N T call W X (.c (.bl b))) :=
  PE.imp pe_bl fun σ H Q ⟨ρ, M, G, as, He, en, wf, h⟩ => h H G as Stp.refl wf _ (show Rep _ _ _ _ _ _ from .bl b)
theorem se_int {j : Nat} {i : Int} : PE X (.Constant (.int i) j pos) (tE N T call W X (.c (.int i))) :=
  PE.imp pe_int fun σ H Q ⟨ρ, M, G, as, He, en, wf, h⟩ => h H G as Stp.refl wf _ (show Rep _ _ _ _ _ _ from .int i)
theorem se_str {j : Nat} {x : Str} : PE X (.Constant (.str x) j pos) (tE N T call W X (.c (.str x))) :=
  PE.imp pe_str fun σ H Q ⟨ρ, M, G, as, He, en, wf, h⟩ => h H G as Stp.refl wf _ (show Rep _ _ _ _ _ _ from .str x)
theorem se_glob {i : Nat} {x : Str} (hg : Gl X x) (hd : (x == ("__debug__" : Str)) = false) (hm : ∀ y, T.gl i = some y → ∃ v u, X.mg x = some u ∧ RelV v u ∧ ∀ G, Rep N X.w X.K G v y) (ht : (T.gl i).isSome = true) : PE X (.Name x pos) (tE N T call W X (.g i)) := by
  obtain ⟨y, e⟩ := Option.isSome_iff_exists.mp ht
  obtain ⟨v, u, h1, h2, h3⟩ := hm y e
  refine PE.imp (pe_glob hg h1 h2 hd) fun σ H Q ⟨ρ, M, G, as, He, en, wf, h⟩ => ?_
  rw [eval] at h
  obtain ⟨z, ez, h⟩ := h.of
  rw [e] at ez
  cases ez
  exact h H G as Stp.refl wf v (h3 G)

/-! ### lists of arguments -/
theorem sa_dnil : PA X [] (tDs N T call W X []) := PA.imp pa_nil fun σ H Q ⟨ρ, M, G, as, He, en, wf, h⟩ => h H G as Stp.refl wf [] .nil
theorem sa_dcons {pe : Expr} {pes : List Expr} {e : E} {es : List E} (s : notStar pe = true) (h1 : PE X pe (tE N T call W X e)) (h2 : PA X pes (tDs N T call W X es)) : PA X (pe :: pes) (tDs N T call W X (e :: es)) := by
  refine PA.imp (pa_cons h1 h2 (starEach_of s)) fun σ H Q ⟨ρ, M, G, as, He, en, wf, h⟩ => ?_
  rw [evalDs] at h
  refine ⟨ρ, M, G, as, He, en, wf, h.bind fun v M1 H1 G1 as1 e1 s1 w1 h x vr => ?_⟩
  obtain ⟨y, ey, h⟩ := h.of
  obtain ⟨G2, s2, w2, r⟩ := vr.toD ey w1 s1
  refine ⟨ρ, M1, G2, as1, He, en.stp s2, w2, (h.stp s2).bind fun xs M2 H2 G3 as2 e2 s3 w3 h vs rs => ?_⟩
  exact h H2 G3 as2 s3 w3 _ (.cons (Rep.sub s3.ext r) rs)
theorem sa_anil : PA X [] (tAs N T call W X []) := PA.imp pa_nil fun σ H Q ⟨ρ, M, G, as, He, en, wf, h⟩ => h H G as Stp.refl wf [] .nil
theorem sa_acons {pe : Expr} {pes : List Expr} {e : E} {es : List E} (s : notStar pe = true) (h1 : PE X pe (tE N T call W X e)) (h2 : PA X pes (tAs N T call W X es)) : PA X (pe :: pes) (tAs N T call W X (e :: es)) := by
  refine PA.imp (pa_cons h1 h2 (starEach_of s)) fun σ H Q ⟨ρ, M, G, as, He, en, wf, h⟩ => ?_
  rw [evalAs] at h
  refine ⟨ρ, M, G, as, He, en, wf, h.bind fun v M1 H1 G1 as1 e1 s1 w1 h x vr => ?_⟩
  obtain ⟨y, ey, h⟩ := h.of
  obtain ⟨G2, s2, w2, r⟩ := vr.toArg ey w1 s1
  refine ⟨ρ, M1, G2, as1, He, en.stp s2, w2, (h.stp s2).bind fun xs M2 H2 G3 as2 e2 s3 w3 h vs rs => ?_⟩
  exact h H2 G3 as2 s3 w3 _ (.cons (r.stp s3) rs)
theorem sa_pnil : PA X [] (tPs N T call W X []) := PA.imp pa_nil fun σ H Q ⟨ρ, M, G, as, He, en, wf, h⟩ => h H G as Stp.refl wf [] .nil
theorem sa_pcons {pe : Expr} {pes : List Expr} {e : E} {es : List E} (s : notStar pe = true) (h1 : PE X pe (tE N T call W X e)) (h2 : PA X pes (tPs N T call W X es)) : PA X (pe :: pes) (tPs N T call W X (e :: es)) := by
  refine PA.imp (pa_cons h1 h2 (starEach_of s)) fun σ H Q ⟨ρ, M, G, as, He, en, wf, h⟩ => ?_
  rw [evalPs] at h
  refine ⟨ρ, M, G, as, He, en, wf, h.bind fun v M1 H1 G1 as1 e1 s1 w1 h x vr => ?_⟩
  obtain ⟨y, ey, h⟩ := h.of
  refine ⟨ρ, M1, G1, as1, He, en.stp s1, w1, (h.stp s1).bind fun xs M2 H2 G3 as2 e2 s3 w3 h vs rs => ?_⟩
  exact h H2 G3 as2 s3 w3 _ (.cons ((vr.peek ey).stp s3) rs)

/-! ### a new object -/
section
variable {w : World} {K : PySem.W.Frag} {as : List Addr} {G H : Hp} {M : Mem} {p : Addr} {o : HO}
theorem Stp.new_ (n : H p = none) (sub : Sub G H) : Stp as G H as G (upd H p o) where
  ext := Sub.refl
  pre := ⟨[], by simp⟩
  keep := fun a u h _ => by rw [upd_ne (ne_of_none h n)]; exact h
  free := fun _ _ _ h => h
  new := fun _ h => .inl h
  live := fun a u h => ⟨u, by rw [upd_ne (ne_of_none h n)]; exact h⟩
theorem Wf.new_ (f : Wf N w K G H as M) (n : H p = none) : Wf N w K G (upd H p o) as M where
  sub := fun a u h => by rw [upd_ne (ne_of_none (f.sub a u h) n)]; exact f.sub a u h
  len := f.len
  mem := fun i a c h1 h2 => (f.mem i a c h1 h2).mono (fun u h => by rw [upd_ne (ne_of_none h n)]; exact h) Sub.refl fun _ _ z => z
  nd := f.nd
  out := f.out
theorem Wf.gnone (f : Wf N w K G H as M) (n : H p = none) : G p = none := by
  cases e : G p with
  | none => rfl
  | some u => rw [f.sub p u e] at n; cases n
theorem Wf.notin (f : Wf N w K G H as M) (n : H p = none) : p ∉ as := fun h => by
  obtain ⟨i, hi⟩ := List.getElem?_of_mem h
  have hl := (List.getElem?_eq_some_iff.mp hi).1
  rw [f.len] at hl
  obtain ⟨u, e⟩ := (f.mem i p _ hi (List.getElem?_eq_getElem hl)).some
  rw [n] at e
  cases e
end

theorem se_tup {k : Nat} {pes : List Expr} {es : List E} (h : PA X pes (tDs N T call W X es)) : PE X (.Tuple pes k pos) (tE N T call W X (.tup es)) := by
  refine PE.imp (pe_tup h) fun σ H Q ⟨ρ, M, G, as, He, en, wf, h⟩ => ?_
  rw [eval] at h
  refine ⟨ρ, M, G, as, He, en, wf, h.bind fun xs M1 H1 G1 as1 e1 s1 w1 h vs rs => ?_⟩
  obtain ⟨hf, h⟩ := h.ite
  have hl := rs.length
  refine ⟨by rw [hl]; exact of_decide_eq_true hf, fun p np => ?_⟩
  have s2 : Stp as G H as1 G1 (upd H1 p (.tup vs)) := s1.trans (Stp.new_ np w1.sub)
  have s3 := s2.freeze (o := .tup vs) (w1.gnone np) (by
    cases e : H p with
    | none => rfl
    | some u =>
      obtain ⟨u', e'⟩ := s1.live p u e
      rw [np] at e'; cases e')
  exact h _ _ as1 s3 ((w1.new_ np).freeze upd_same (w1.gnone np) (w1.notin np)) _ (.tup (SqT.of upd_same) (Reps.sub (upd_sub (w1.gnone np)) rs))
theorem se_lst {pes : List Expr} {es : List E} (h : PA X pes (tDs N T call W X es)) : PE X (.List pes pos) (tE N T call W X (.lst es)) := by
  refine PE.imp (pe_lst h) fun σ H Q ⟨ρ, M, G, as, He, en, wf, h⟩ => ?_
  rw [eval] at h
  refine ⟨ρ, M, G, as, He, en, wf, h.bind fun xs M1 H1 G1 as1 e1 s1 w1 h vs rs => ?_⟩
  obtain ⟨hf, h⟩ := h.ite
  have hl := rs.length
  refine ⟨by rw [hl]; exact of_decide_eq_true hf, fun p np => ?_⟩
  have s2 : Stp as G H as1 G1 (upd H1 p (.lst vs)) := s1.trans (Stp.new_ np w1.sub)
  refine h _ _ as1 s2 (w1.new_ np) _ ⟨p, rfl, ⟨vs, upd_same, rs⟩, w1.gnone np, w1.notin np, ?_⟩
  cases e : H p with
  | none => rfl
  | some u =>
    obtain ⟨u', e'⟩ := s1.live p u e
    rw [np] at e'; cases e'
end
end Fm
end

/-! ## part LF -/
section
set_option maxHeartbeats 4000000
namespace Fm
open PySem PySem.Spec L2

def BOp.op : BOp → Operator
  | .add => .Add | .sub => .Sub | .mul => .Mult | .fdiv => .FloorDiv | .mod => .Mod | .pow => .Pow
def COp.op : COp → CmpOp
  | .lt => .Lt | .le => .LtE | .gt => .Gt | .ge => .GtE | .eq => .Eq | .ne => .NotEq | .is => .Is | .isnot => .IsNot | .in_ => .In | .notin => .NotIn

theorem OpR.imp {X : Cx} {f : Value → Value → Sem Value} {r r' : R2} (h : OpR X f r) (i : ∀ x y H Q, r' x y H Q → r x y H Q) : OpR X f r' := fun pins s σ H x y v u Q I rx ry q => h pins s σ H x y v u Q I rx ry (i x y H Q q)

section
variable (N : Nm) (w : World) (K : PySem.W.Frag)
/-- what is wanted behind a step that gives v -/
def Out (M : Mem) (G : Hp) (as : List Addr) (H : Hp) (v : Val) (Q : VK) : Prop := ∀ H' G' as', Stp as G H as' G' H' → Wf N w K G' H' as' M → ∀ z, VR N w K G' as' H H' z v → Q z H'
def rB (g : D → D → Option Val) : R2 := fun x y H Q => ∃ M G as dx dy v, Wf N w K G H as M ∧ RP N w K G as H x dx ∧ RP N w K G as H y dy ∧ g dx dy = some v ∧ Out N w K M G as H v Q
def rC (g : D → D → Option Bool) : R2 := fun x y H Q => ∃ M G as dx dy b, Wf N w K G H as M ∧ RP N w K G as H x dx ∧ RP N w K G as H y dy ∧ g dx dy = some b ∧ Q (.bl b) H
end
section
variable {N : Nm} {w : World} {K : PySem.W.Frag} {M : Mem} {G H : Hp} {as : List Addr} {v : Val} {Q : VK}
theorem Out.int {i : Int} (k : Out N w K M G as H (.d (.int i)) Q) (f : Wf N w K G H as M) : Q (.int i) H := k H G as Stp.refl f _ (show Rep _ _ _ _ _ _ from .int i)
theorem Out.bl {i : Bool} (k : Out N w K M G as H (.d (.bl i)) Q) (f : Wf N w K G H as M) : Q (.bl i) H := k H G as Stp.refl f _ (show Rep _ _ _ _ _ _ from .bl i)
theorem Out.rep {x : V} {d : D} (k : Out N w K M G as H (.d d) Q) (f : Wf N w K G H as M) (r : Rep N w K G x d) : Q x H := k H G as Stp.refl f _ r
theorem Out.tup {p : Addr} {vs : List V} {ds : List D} (k : Out N w K M G as H (.d (.tup ds)) Q) (f : Wf N w K G H as M) (np : H p = none) (r : Reps N w K G vs ds) : Q (.ref p) (upd H p (.tup vs)) := by
  have s2 : Stp as G H as G (upd H p (.tup vs)) := Stp.new_ np f.sub
  exact k _ _ as (s2.freeze (o := .tup vs) (f.gnone np) np) ((f.new_ np).freeze upd_same (f.gnone np) (f.notin np)) _ (.tup (SqT.of upd_same) (Reps.sub (upd_sub (f.gnone np)) r))
theorem Out.lst {p : Addr} {vs : List V} {ds : List D} (k : Out N w K M G as H (.o (.lst ds)) Q) (f : Wf N w K G H as M) (np : H p = none) (r : Reps N w K G vs ds) : Q (.ref p) (upd H p (.lst vs)) :=
  k _ _ as (Stp.new_ np f.sub) (f.new_ np) _ ⟨p, rfl, ⟨vs, upd_same, r⟩, f.gnone np, f.notin np, np⟩
end

section
variable {N : Nm} {X : Cx}
theorem op_bin_add : OpR X (binaryOp .Add) (rB N X.w X.K addD) := by
  refine OpR.imp (op_add.or (op_catA.or op_cat)) fun x y H Q ⟨M, G, as, dx, dy, v, wf, rx, ry, e, k⟩ => ?_
  unfold addD at e
  split at e <;> try (cases e; done)
  · cases e
    obtain rfl := rx.int
    obtain rfl := ry.int
    exact .inl ⟨_, _, rfl, rfl, k.int wf⟩
  · rename_i a b _ 
    split at e
    · rename_i hf
      cases e
      obtain ⟨p, vs, rfl, h1, r1⟩ := rx.tup.tup_inv
      obtain ⟨q, us, rfl, h2, r2⟩ := ry.tup.tup_inv
      refine .inr (.inl ⟨p, q, vs, us, rfl, rfl, SqT.sub h1 wf.sub, SqT.sub h2 wf.sub, ?_, fun z => ?_, fun _ z => ?_, fun _ _ p np => ?_⟩)
      · rw [r1.length, r2.length]; exact of_decide_eq_true hf
      · subst z
        cases r1
        exact k.rep wf (.tup h2 r2)
      · subst z
        cases r2
        rw [List.append_nil] at k
        exact k.rep wf (.tup h1 r1)
      · exact k.tup wf np (r1.append r2)
    · cases e
  · rename_i a b _ 
    split at e
    · rename_i hf
      cases e
      obtain ⟨p, vs, rfl, h1, r1⟩ := rx.lst wf.sub
      obtain ⟨q, us, rfl, h2, r2⟩ := ry.lst wf.sub
      refine .inr (.inr ⟨p, q, vs, us, rfl, rfl, h1, h2, ?_, fun p np => ?_⟩)
      · rw [r1.length, r2.length]; exact of_decide_eq_true hf
      · exact k.lst wf np (r1.append r2)
    · cases e
theorem op_bin_sub : OpR X (binaryOp .Sub) (rB N X.w X.K subD) := by
  refine OpR.imp op_sub fun x y H Q ⟨M, G, as, dx, dy, v, wf, rx, ry, e, k⟩ => ?_
  unfold subD at e
  split at e <;> try (cases e; done)
  cases e
  obtain rfl := rx.int
  obtain rfl := ry.int
  exact ⟨_, _, rfl, rfl, k.int wf⟩
theorem op_bin_mul : OpR X (binaryOp .Mult) (rB N X.w X.K mulD) := by
  refine OpR.imp op_mul fun x y H Q ⟨M, G, as, dx, dy, v, wf, rx, ry, e, k⟩ => ?_
  unfold mulD at e
  split at e <;> try (cases e; done)
  split at e
  · rename_i hm
    cases e
    obtain rfl := rx.int
    obtain rfl := ry.int
    refine ⟨_, _, rfl, rfl, ?_, k.int wf⟩
    unfold mulOk at hm
    rw [Bool.or_eq_true, decide_eq_true_eq, decide_eq_true_eq] at hm
    unfold CMul
    rcases hm with h | h
    · exact .inl (by omega)
    · exact .inr (by omega)
  · cases e
theorem op_bin_fdiv : OpR X (binaryOp .FloorDiv) (rB N X.w X.K fdivD) := by
  refine OpR.imp op_fdiv fun x y H Q ⟨M, G, as, dx, dy, v, wf, rx, ry, e, k⟩ => ?_
  unfold fdivD at e
  split at e <;> try (cases e; done)
  split at e
  · rename_i hm
    cases e
    obtain rfl := rx.int
    obtain rfl := ry.int
    exact ⟨_, _, rfl, rfl, hm, k.int wf⟩
  · cases e
theorem op_bin_mod : OpR X (binaryOp .Mod) (rB N X.w X.K modD) := by
  refine OpR.imp op_mod fun x y H Q ⟨M, G, as, dx, dy, v, wf, rx, ry, e, k⟩ => ?_
  unfold modD at e
  split at e <;> try (cases e; done)
  split at e
  · rename_i hm
    cases e
    obtain rfl := rx.int
    obtain rfl := ry.int
    exact ⟨_, _, rfl, rfl, hm, k.int wf⟩
  · cases e
theorem op_bin_pow : OpR X (binaryOp .Pow) (rB N X.w X.K powD) := by
  refine OpR.imp op_pow fun x y H Q ⟨M, G, as, dx, dy, v, wf, rx, ry, e, k⟩ => ?_
  unfold powD at e
  split at e <;> try (cases e; done)
  split at e
  · rename_i hm
    cases e
    obtain rfl := rx.int
    obtain rfl := ry.int
    exact ⟨_, _, rfl, rfl, hm, k.int wf⟩
  · cases e
theorem op_bin (o : BOp) : OpR X (binaryOp o.op) (rB N X.w X.K (binD o)) := by
  cases o
  · exact op_bin_add
  · exact op_bin_sub
  · exact op_bin_mul
  · exact op_bin_fdiv
  · exact op_bin_mod
  · exact op_bin_pow

/-! ### comparisons -/
theorem eqOk_plain {d : D} (h : d.eqOk = true) : d.plain = true := by
  unfold D.eqOk at h
  rw [Bool.and_eq_true] at h
  exact h.1
theorem op_lt_data (hu : X.A.units + 64 < cLine) : OpR X (compareOp .Lt) (fun x y H Q => ∃ d e : D, Rep N X.w X.K H x d ∧ Rep N X.w X.K H y e ∧ d.eqOk = true ∧ e.eqOk = true ∧ D.alike d e = true ∧ d ≠ .non ∧ Q (.bl (D.ltb d e)) H) := by
  intro pins s σ H x y v u Q I rx ry h
  obtain ⟨d, e, hd, he, pd, pe, al, nn, q⟩ := h
  have pd' := eqOk_plain pd
  have pe' := eqOk_plain pe
  obtain ⟨as, r1⟩ := Dp.reads I d.py x v (hd.dp pd') rx
  obtain ⟨bs, r2⟩ := Dp.reads I e.py y u (he.dp pe') ry
  have hz := W.rcLt_alike d.py e.py X.A s v u as bs r1 r2 (by rw [D.alike_py d e pd' pe']; exact al) (by
    intro z
    cases d <;> simp_all [D.py, D.plain]) (SeqAt.room_of_shaped (D.shaped_py pd) hu)
  exact hz _ _ _ _ ⟨.bl _, H, I, rfl, by rw [D.ltb_py d e pd' pe' al nn]; exact q⟩
theorem op_cmp_lt (hu : X.A.units + 64 < cLine) : OpR X (compareOp .Lt) (rC N X.w X.K cmpLt) := by
  refine OpR.imp (op_lt.or (op_lt_data (N := N) hu)) fun x y H Q ⟨M, G, as, dx, dy, b, wf, rx, ry, e, k⟩ => ?_
  unfold cmpLt at e
  split at e <;> try (cases e; done)
  · cases e
    obtain rfl := rx.int
    obtain rfl := ry.int
    exact .inl ⟨_, _, rfl, rfl, k⟩
  · split at e
    · rename_i h
      cases e
      simp only [Bool.and_eq_true, Bool.not_eq_true', decide_eq_false_iff_not] at h
      obtain ⟨⟨⟨h1, h2⟩, h3⟩, h4⟩ := h
      exact .inr ⟨_, _, rx.rep wf.sub, ry.rep wf.sub, h1, h2, h3, h4, k⟩
    · cases e
theorem op_cmp_le : OpR X (compareOp .LtE) (rC N X.w X.K cmpLe) := by
  refine OpR.imp op_le fun x y H Q ⟨M, G, as, dx, dy, b, wf, rx, ry, e, k⟩ => ?_
  unfold cmpLe at e
  split at e <;> try (cases e; done)
  cases e
  obtain rfl := rx.int
  obtain rfl := ry.int
  exact ⟨_, _, rfl, rfl, k⟩
theorem op_cmp_gt : OpR X (compareOp .Gt) (rC N X.w X.K cmpGt) := by
  refine OpR.imp op_gt fun x y H Q ⟨M, G, as, dx, dy, b, wf, rx, ry, e, k⟩ => ?_
  unfold cmpGt at e
  split at e <;> try (cases e; done)
  cases e
  obtain rfl := rx.int
  obtain rfl := ry.int
  exact ⟨_, _, rfl, rfl, k⟩
theorem op_cmp_ge : OpR X (compareOp .GtE) (rC N X.w X.K cmpGe) := by
  refine OpR.imp op_ge fun x y H Q ⟨M, G, as, dx, dy, b, wf, rx, ry, e, k⟩ => ?_
  unfold cmpGe at e
  split at e <;> try (cases e; done)
  cases e
  obtain rfl := rx.int
  obtain rfl := ry.int
  exact ⟨_, _, rfl, rfl, k⟩
theorem op_cmp_eq (hu : X.A.units + 64 < cLine) : OpR X (compareOp .Eq) (rC N X.w X.K cmpEq) := by
  refine OpR.imp (op_eqD hu) fun x y H Q ⟨M, G, as, dx, dy, b, wf, rx, ry, e, k⟩ => ?_
  unfold cmpEq at e
  split at e
  · rename_i h
    cases e
    rw [Bool.and_eq_true] at h
    have p1 := eqOk_plain h.1
    have p2 := eqOk_plain h.2
    exact ⟨_, _, (rx.rep wf.sub).dp p1, (ry.rep wf.sub).dp p2, D.shaped_py h.1, D.shaped_py h.2, by rw [D.eqv_py _ _ p1 p2]; exact k⟩
  · cases e
theorem op_cmp_ne (hu : X.A.units + 64 < cLine) : OpR X (compareOp .NotEq) (rC N X.w X.K fun a b => (cmpEq a b).map (!·)) := by
  refine OpR.imp (op_neD hu) fun x y H Q ⟨M, G, as, dx, dy, b, wf, rx, ry, e, k⟩ => ?_
  obtain ⟨c, e2, rfl⟩ := Option.map_eq_some_iff.mp e
  clear e
  have e := e2
  clear e2
  unfold cmpEq at e
  split at e
  · rename_i h
    cases e
    rw [Bool.and_eq_true] at h
    have p1 := eqOk_plain h.1
    have p2 := eqOk_plain h.2
    exact ⟨_, _, (rx.rep wf.sub).dp p1, (ry.rep wf.sub).dp p2, D.shaped_py h.1, D.shaped_py h.2, by rw [D.eqv_py _ _ p1 p2]; exact k⟩
  · cases e
theorem rep_non {G H : Hp} {as : List Addr} {x : V} {d : D} (r : RP N X.w X.K G as H x d) : decide (x = V.non) = decide (d = .non) := by
  rcases r with r | ⟨a, rfl, h, _⟩
  · cases r <;> simp
  · cases d <;> first | exact h.elim | simp
theorem op_cmp_is : OpR X (compareOp .Is) (rC N X.w X.K cmpIs) := by
  refine OpR.imp (op_isN.or op_is_bl) fun x y H Q ⟨M, G, as, dx, dy, b, wf, rx, ry, e, k⟩ => ?_
  unfold cmpIs at e
  split at e <;> try (cases e; done)
  · cases e
    obtain rfl := ry.non
    exact .inl ⟨rfl, by rw [rep_non rx]; exact k⟩
  · cases e
    obtain rfl := rx.bl
    obtain rfl := ry.bl
    exact .inr ⟨_, _, rfl, rfl, k⟩
theorem op_cmp_isnot : OpR X (compareOp .IsNot) (rC N X.w X.K fun a b => (cmpIs a b).map (!·)) := by
  refine OpR.imp (op_notN.or op_isnot_bl) fun x y H Q ⟨M, G, as, dx, dy, b, wf, rx, ry, e, k⟩ => ?_
  obtain ⟨c, e2, rfl⟩ := Option.map_eq_some_iff.mp e
  clear e
  have e := e2
  clear e2
  unfold cmpIs at e
  split at e <;> try (cases e; done)
  · cases e
    obtain rfl := ry.non
    exact .inl ⟨rfl, by rw [rep_non rx]; exact k⟩
  · cases e
    obtain rfl := rx.bl
    obtain rfl := ry.bl
    exact .inr ⟨_, _, rfl, rfl, k⟩
theorem any_py {d : D} (p : d.plain = true) : ∀ {ds : List D}, D.plains ds = true → ((D.pys ds).any fun z => PyData.eqv z d.py) = memD d ds
  | [], _ => rfl
  | x :: xs, h => by
    rw [D.plains, Bool.and_eq_true] at h
    have ih := any_py p h.2
    unfold memD at ih ⊢
    rw [D.pys, List.any_cons, List.any_cons, D.eqv_py x d h.1 p, ih]
theorem room_in {A : Around} {d : D} {n : Nat} (h : d.eqOk = true) (hu : A.units + 64 < cLine) : A.units + 1 + min n d.py.depth < cLine := by
  have h1 := D.depth_eqOk h
  rw [D.depth_py]
  have h2 : min n d.depth ≤ d.depth := Nat.min_le_right _ _
  omega
theorem Reads.of_tup {h : Heap} {v : Value} {ds : List D} {as : List Addr} (r : Reads h v (D.tup ds).py as) : Reads h v (.tuple (D.pys ds)) as := by
  rw [D.py] at r
  exact r
theorem Reads.of_lst {h : Heap} {v : Value} {ds : List D} {as : List Addr} (r : Reads h v (D.lst ds).py as) : Reads h v (.list (D.pys ds)) as := by
  rw [D.py] at r
  exact r
theorem op_in_data (hu : X.A.units + 64 < cLine) : OpR X (compareOp .In) (fun x y H Q => ∃ (d : D) (ys : List D) (e : D), (e = .lst ys ∨ e = .tup ys) ∧ Rep N X.w X.K H x d ∧ Rep N X.w X.K H y e ∧ d.eqOk = true ∧ e.eqOk = true ∧ Q (.bl (memD d ys)) H) := by
  intro pins s σ H x y v u Q I rx ry h
  obtain ⟨d, ys, e, he, hd, hy, pd, pe, q⟩ := h
  have pd' := eqOk_plain pd
  have pe' := eqOk_plain pe
  obtain ⟨as, r1⟩ := Dp.reads I d.py x v (hd.dp pd') rx
  obtain ⟨bs, r2⟩ := Dp.reads I e.py y u (hy.dp pe') ry
  have pys' : D.plains ys = true := by rcases he with rfl | rfl <;> simpa [D.plain] using pe'
  have k : EP X pins σ Q (.bool ((D.pys ys).any fun z => PyData.eqv z d.py)) s := ⟨.bl _, H, I, rfl, by rw [any_py pd' pys']; exact q⟩
  rcases he with rfl | rfl
  · exact SeqAt.in_list_reads (Reads.of_lst r2) r1 (D.canLays_py ys pys') (D.canLay_py d pd') (room_in pd hu) k
  · exact SeqAt.in_tuple_reads (Reads.of_tup r2) r1 (D.canLays_py ys pys') (D.canLay_py d pd') (room_in pd hu) k
theorem op_notin_data (hu : X.A.units + 64 < cLine) : OpR X (compareOp .NotIn) (fun x y H Q => ∃ (d : D) (ys : List D) (e : D), (e = .lst ys ∨ e = .tup ys) ∧ Rep N X.w X.K H x d ∧ Rep N X.w X.K H y e ∧ d.eqOk = true ∧ e.eqOk = true ∧ Q (.bl (!memD d ys)) H) := by
  intro pins s σ H x y v u Q I rx ry h
  obtain ⟨d, ys, e, he, hd, hy, pd, pe, q⟩ := h
  have pd' := eqOk_plain pd
  have pe' := eqOk_plain pe
  obtain ⟨as, r1⟩ := Dp.reads I d.py x v (hd.dp pd') rx
  obtain ⟨bs, r2⟩ := Dp.reads I e.py y u (hy.dp pe') ry
  have pys' : D.plains ys = true := by rcases he with rfl | rfl <;> simpa [D.plain] using pe'
  have k : EP X pins σ Q (.bool (!(D.pys ys).any fun z => PyData.eqv z d.py)) s := ⟨.bl _, H, I, rfl, by rw [any_py pd' pys']; exact q⟩
  rcases he with rfl | rfl
  · exact SeqAt.notIn_list_reads (Reads.of_lst r2) r1 (D.canLays_py ys pys') (D.canLay_py d pd') (room_in pd hu) k
  · exact SeqAt.notIn_tuple_reads (Reads.of_tup r2) r1 (D.canLays_py ys pys') (D.canLay_py d pd') (room_in pd hu) k
theorem cmpIn_inv {dx dy : D} {b : Bool} (e : cmpIn dx dy = some b) : ∃ ys, (dy = .lst ys ∨ dy = .tup ys) ∧ dx.eqOk = true ∧ dy.eqOk = true ∧ b = memD dx ys := by
  unfold cmpIn at e
  split at e <;> try (cases e; done)
  all_goals
    split at e
    · rename_i h
      cases e
      rw [Bool.and_eq_true] at h
      first
        | exact ⟨_, .inl rfl, h.1, h.2, rfl⟩
        | exact ⟨_, .inr rfl, h.1, h.2, rfl⟩
    · cases e
theorem op_cmp_in (hu : X.A.units + 64 < cLine) : OpR X (compareOp .In) (rC N X.w X.K cmpIn) := by
  refine OpR.imp (op_in_data (N := N) hu) fun x y H Q ⟨M, G, as, dx, dy, b, wf, rx, ry, e, k⟩ => ?_
  obtain ⟨ys, h1, h2, h3, rfl⟩ := cmpIn_inv e
  exact ⟨dx, ys, dy, h1, rx.rep wf.sub, ry.rep wf.sub, h2, h3, k⟩
theorem op_cmp_notin (hu : X.A.units + 64 < cLine) : OpR X (compareOp .NotIn) (rC N X.w X.K fun a b => (cmpIn a b).map (!·)) := by
  refine OpR.imp (op_notin_data (N := N) hu) fun x y H Q ⟨M, G, as, dx, dy, b, wf, rx, ry, e, k⟩ => ?_
  obtain ⟨c, e2, rfl⟩ := Option.map_eq_some_iff.mp e
  obtain ⟨ys, h1, h2, h3, rfl⟩ := cmpIn_inv e2
  exact ⟨dx, ys, dy, h1, rx.rep wf.sub, ry.rep wf.sub, h2, h3, k⟩
theorem op_cmp (hu : X.A.units + 64 < cLine) (o : COp) : OpR X (compareOp o.op) (rC N X.w X.K (cmpD o)) := by
  cases o
  · exact op_cmp_lt hu
  · exact op_cmp_le
  · exact op_cmp_gt
  · exact op_cmp_ge
  · exact op_cmp_eq hu
  · exact op_cmp_ne hu
  · exact op_cmp_is
  · exact op_cmp_isnot
  · exact op_cmp_in hu
  · exact op_cmp_notin hu
end
end Fm
end

/-! ## part LG -/
section
set_option maxHeartbeats 4000000
namespace Fm
open PySem PySem.Spec L2

section
variable {N : Nm} {w : World} {K : PySem.W.Frag} {M : Mem} {G H H0 : Hp} {as : List Addr}
theorem rp_truth {x : V} {d : D} {b : Bool} (r : RP N w K G as H x d) (e : d.truth = some b) (f : Wf N w K G H as M) : TruV K x H b := by
  cases d with
  | non => cases r.non; cases e; rfl
  | bl c => cases r.bl; cases e; rfl
  | int i => cases r.int; cases e; rfl
  | str s =>
    cases r.str
    rw [D.truth] at e
    split at e
    · rename_i h
      cases e
      exact ⟨h, rfl⟩
    · cases e
  | tup xs =>
    cases e
    obtain ⟨a, vs, rfl, h1, h2⟩ := r.tup.tup_inv
    refine .inr (.inl ⟨vs, SqT.sub h1 f.sub, ?_⟩)
    cases h2 <;> rfl
  | lst xs =>
    cases e
    obtain ⟨a, vs, rfl, h1, h2⟩ := r.lst f.sub
    refine .inl ⟨vs, SqL.of h1, ?_⟩
    cases h2 <;> rfl
  | _ => cases e
end

/-- a test whose truth is its value's -/
def plainTest : Expr → Bool
  | .UnaryOp .Not _ _ | .BoolOp .. | .IfExp .. | .Compare .. => false
  | _ => true
theorem plainTest_of {a : Expr} {env : PySem.Env} (h : plainTest a = true) : ∀ whole, isTrue a env whole = (do let v ← whole; standAt a.pos; holding [v] (truthy v)) := by
  intro whole
  cases a with
  | UnaryOp o x p => cases o <;> first | rfl | cases h
  | BoolOp => cases h
  | IfExp => cases h
  | Compare => cases h
  | _ => rfl

section
variable {N : Nm} {T : Tab} {call : CallF} {W : WX} {X : Cx} {pos : Pos}
theorem st_val {pe : Expr} {e : E} (h : PE X pe (tE N T call W X e)) (p : plainTest pe = true) : PT X pe (tT N T call W X e) := by
  refine PT.imp (pt_truth h (plainTest_of p)) fun σ H Q ⟨ρ, M, G, as, He, en, wf, h⟩ => ?_
  refine ⟨ρ, M, G, as, He, en, wf, ?_⟩
  cases e1 : eval T call e ρ M with
  | bad => rw [e1] at h; exact h.elim
  | ex c fs M => rw [e1] at h; exact h
  | ok v M1 =>
    rw [e1] at h
    intro H1 G1 as1 s1 w1 x vr
    obtain ⟨b, eb, q⟩ := h H1 G1 as1 s1 w1
    refine ⟨b, ?_, q⟩
    obtain ⟨d, ed, eb⟩ := Option.bind_eq_some_iff.mp (show v.peek.bind D.truth = some b from eb)
    exact rp_truth (vr.peek ed) eb w1

theorem se_bin {o : BOp} {pa pb : Expr} {a b : E} (ha : PE X pa (tE N T call W X a)) (hb : PE X pb (tE N T call W X b)) : PE X (.BinOp pa o.op pb pos) (tE N T call W X (.bin o a b)) := by
  refine PE.imp (pe_op (op_bin (N := N) o) ha hb) fun σ H Q ⟨ρ, M, G, as, He, en, wf, h⟩ => ?_
  rw [eval] at h
  refine ⟨ρ, M, G, as, He, en, wf, h.bind fun v M1 H1 G1 as1 e1 s1 w1 h x vr => ?_⟩
  obtain ⟨dx, ex, h⟩ := h.of
  refine ⟨ρ, M1, G1, as1, He, en.stp s1, w1, (h.stp s1).bind fun u M2 H2 G2 as2 e2 s2 w2 h y ur => ?_⟩
  obtain ⟨dy, ey, h⟩ := h.of
  have h := h.stp s2
  cases e3 : binD o dx dy with
  | none => rw [e3] at h; exact h.elim
  | some z =>
    rw [e3] at h
    exact ⟨M2, G2, as2, dx, dy, z, w2, (vr.peek ex).stp s2, ur.peek ey, e3, fun H3 G3 as3 s3 w3 q qr => h H3 G3 as3 s3 w3 q ((qr.back s2).back s1)⟩
def notSet : Expr → Bool
  | .Set .. => false
  | _ => true
theorem notSet_of {o : COp} {pb : Expr} (h : notSet pb = true) : behindInMarks o.op pb = false := by
  cases pb <;> first | rfl | cases h
theorem se_cmp {o : COp} {pa pb : Expr} {a b : E} (hu : X.A.units + 64 < cLine) (ns : notSet pb = true) (ha : PE X pa (tE N T call W X a)) (hb : PE X pb (tE N T call W X b)) : PE X (.Compare pa [o.op] [pb] pos) (tE N T call W X (.cmp o a b)) := by
  refine PE.imp (pe_cmpR (op_cmp (N := N) hu o) ha hb (notSet_of ns)) fun σ H Q ⟨ρ, M, G, as, He, en, wf, h⟩ => ?_
  rw [eval] at h
  refine ⟨ρ, M, G, as, He, en, wf, h.bind fun v M1 H1 G1 as1 e1 s1 w1 h x vr => ?_⟩
  obtain ⟨dx, ex, h⟩ := h.of
  refine ⟨ρ, M1, G1, as1, He, en.stp s1, w1, (h.stp s1).bind fun u M2 H2 G2 as2 e2 s2 w2 h y ur => ?_⟩
  obtain ⟨dy, ey, h⟩ := h.of
  obtain ⟨c, ec, h⟩ := h.of
  exact ⟨M2, G2, as2, dx, dy, c, w2, (vr.peek ex).stp s2, ur.peek ey, ec, h H2 G2 as2 s2 w2 _ (show Rep _ _ _ _ _ _ from .bl c)⟩
theorem st_cmp {o : COp} {pa pb : Expr} {a b : E} (hu : X.A.units + 64 < cLine) (ns : notSet pb = true) (ha : PE X pa (tE N T call W X a)) (hb : PE X pb (tE N T call W X b)) : PT X (.Compare pa [o.op] [pb] pos) (tT N T call W X (.cmp o a b)) := by
  refine PT.imp (pt_cmpR (op_cmp (N := N) hu o) ha hb (notSet_of ns)) fun σ H Q ⟨ρ, M, G, as, He, en, wf, h⟩ => ?_
  rw [eval] at h
  refine ⟨ρ, M, G, as, He, en, wf, h.bind fun v M1 H1 G1 as1 e1 s1 w1 h x vr => ?_⟩
  obtain ⟨dx, ex, h⟩ := h.of
  refine ⟨ρ, M1, G1, as1, He, en.stp s1, w1, (h.stp s1).bind fun u M2 H2 G2 as2 e2 s2 w2 h y ur => ?_⟩
  obtain ⟨dy, ey, h⟩ := h.of
  obtain ⟨c, ec, h⟩ := h.of
  obtain ⟨k, ek, q⟩ := h H2 G2 as2 s2 w2
  cases ek
  exact ⟨M2, G2, as2, dx, dy, c, w2, (vr.peek ex).stp s2, ur.peek ey, ec, c, rfl, q⟩
theorem se_chain {o p : COp} {pa pb pc : Expr} {a b c : E} (hu : X.A.units + 64 < cLine) (nb : notSet pb = true) (nc : notSet pc = true) (ha : PE X pa (tE N T call W X a)) (hb : PE X pb (tE N T call W X b)) (hc : PE X pc (tE N T call W X c)) :
    PE X (.Compare pa [o.op, p.op] [pb, pc] pos) (tE N T call W X (.chain o p a b c)) := by
  refine PE.imp (pe_chain (op_cmp (N := N) hu o) (op_cmp (N := N) hu p) ha hb hc (notSet_of nc)) fun σ H Q ⟨ρ, M, G, as, He, en, wf, h⟩ => ?_
  rw [eval] at h
  refine ⟨ρ, M, G, as, He, en, wf, h.bind fun v M1 H1 G1 as1 e1 s1 w1 h x vr => ?_⟩
  obtain ⟨dx, ex, h⟩ := h.of
  refine ⟨ρ, M1, G1, as1, He, en.stp s1, w1, (h.stp s1).bind fun u M2 H2 G2 as2 e2 s2 w2 h y ur => ?_⟩
  obtain ⟨dy, ey, h⟩ := h.of
  obtain ⟨t, et, h⟩ := h.of
  refine ⟨M2, G2, as2, dx, dy, t, w2, (vr.peek ex).stp s2, ur.peek ey, et, t, rfl, ?_⟩
  cases t with
  | false => exact h H2 G2 as2 s2 w2 _ (show Rep _ _ _ _ _ _ from .bl false)
  | true =>
    refine ⟨ρ, M2, G2, as2, He, (en.stp s1).stp s2, w2, (h.stp s2).bind fun z M3 H3 G3 as3 e3 s3 w3 h q qr => ?_⟩
    obtain ⟨dz, ez, h⟩ := h.of
    obtain ⟨t, et, h⟩ := h.of
    exact ⟨M3, G3, as3, dy, dz, t, w3, (ur.peek ey).stp s3, qr.peek ez, et, h H3 G3 as3 s3 w3 _ (show Rep _ _ _ _ _ _ from .bl t)⟩
theorem st_chain {o p : COp} {pa pb pc : Expr} {a b c : E} (hu : X.A.units + 64 < cLine) (nb : notSet pb = true) (nc : notSet pc = true) (ha : PE X pa (tE N T call W X a)) (hb : PE X pb (tE N T call W X b)) (hc : PE X pc (tE N T call W X c)) :
    PT X (.Compare pa [o.op, p.op] [pb, pc] pos) (tT N T call W X (.chain o p a b c)) := by
  refine PT.imp (pt_chain (op_cmp (N := N) hu o) (op_cmp (N := N) hu p) ha hb hc (notSet_of nc)) fun σ H Q ⟨ρ, M, G, as, He, en, wf, h⟩ => ?_
  rw [eval] at h
  refine ⟨ρ, M, G, as, He, en, wf, h.bind fun v M1 H1 G1 as1 e1 s1 w1 h x vr => ?_⟩
  obtain ⟨dx, ex, h⟩ := h.of
  refine ⟨ρ, M1, G1, as1, He, en.stp s1, w1, (h.stp s1).bind fun u M2 H2 G2 as2 e2 s2 w2 h y ur => ?_⟩
  obtain ⟨dy, ey, h⟩ := h.of
  obtain ⟨t, et, h⟩ := h.of
  refine ⟨M2, G2, as2, dx, dy, t, w2, (vr.peek ex).stp s2, ur.peek ey, et, t, rfl, ?_⟩
  cases t with
  | false =>
    obtain ⟨k, ek, q⟩ := h H2 G2 as2 s2 w2
    cases ek
    exact ⟨_, rfl, q⟩
  | true =>
    refine ⟨ρ, M2, G2, as2, He, (en.stp s1).stp s2, w2, (h.stp s2).bind fun z M3 H3 G3 as3 e3 s3 w3 h q qr => ?_⟩
    obtain ⟨dz, ez, h⟩ := h.of
    obtain ⟨t, et, h⟩ := h.of
    obtain ⟨k, ek, q'⟩ := h H3 G3 as3 s3 w3
    cases ek
    exact ⟨M3, G3, as3, dy, dz, t, w3, (ur.peek ey).stp s3, qr.peek ez, et, _, rfl, q'⟩

theorem st_not {pa : Expr} {a : E} (ha : PT X pa (tT N T call W X a)) : PT X (.UnaryOp .Not pa pos) (tT N T call W X (.not a)) := by
  refine PT.imp (pt_not ha) fun σ H Q ⟨ρ, M, G, as, He, en, wf, h⟩ => ?_
  rw [eval] at h
  refine ⟨ρ, M, G, as, He, en, wf, h.bind fun v M1 H1 G1 as1 e1 s1 w1 h => ?_⟩
  obtain ⟨t, et, h⟩ := h.of
  obtain ⟨k, ek, q⟩ := h H1 G1 as1 s1 w1
  cases ek
  exact ⟨t, et, q⟩
theorem se_not {pa : Expr} {a : E} (ha : PE X pa (tE N T call W X a)) : PE X (.UnaryOp .Not pa pos) (tE N T call W X (.not a)) := by
  refine PE.imp (pe_notT ha) fun σ H Q ⟨ρ, M, G, as, He, en, wf, h⟩ => ?_
  rw [eval] at h
  refine ⟨ρ, M, G, as, He, en, wf, h.bind fun v M1 H1 G1 as1 e1 s1 w1 h x vr => ?_⟩
  obtain ⟨t, et, h⟩ := h.of
  obtain ⟨d, ed, eb⟩ := Option.bind_eq_some_iff.mp (show v.peek.bind D.truth = some t from et)
  exact ⟨t, rp_truth (vr.peek ed) eb w1, h H1 G1 as1 s1 w1 _ (show Rep _ _ _ _ _ _ from .bl (!t))⟩
theorem se_neg {pa : Expr} {a : E} (ha : PE X pa (tE N T call W X a)) : PE X (.UnaryOp .USub pa pos) (tE N T call W X (.neg a)) := by
  refine PE.imp (pe_un un_neg ha) fun σ H Q ⟨ρ, M, G, as, He, en, wf, h⟩ => ?_
  rw [eval] at h
  refine ⟨ρ, M, G, as, He, en, wf, h.bind fun v M1 H1 G1 as1 e1 s1 w1 h x vr => ?_⟩
  cases v with
  | d y =>
    cases y with
    | int i =>
      cases (show Rep _ _ _ _ _ _ from vr)
      exact ⟨i, rfl, h H1 G1 as1 s1 w1 _ (show Rep _ _ _ _ _ _ from .int (-i))⟩
    | _ => exact h.elim
  | _ => exact h.elim

/-! ### and, or -/
theorem se_and {pa pb : Expr} {rest : List Expr} {a b : E} (ha : PE X pa (tE N T call W X a)) (hb : PE X (.BoolOp .And (pb :: rest) pos) (tE N T call W X b)) : PE X (.BoolOp .And (pa :: pb :: rest) pos) (tE N T call W X (.and a b)) := by
  refine PE.imp (pe_and ha hb) fun σ H Q ⟨ρ, M, G, as, He, en, wf, h⟩ => ?_
  rw [eval] at h
  refine ⟨ρ, M, G, as, He, en, wf, h.bind fun v M1 H1 G1 as1 e1 s1 w1 h x vr => ?_⟩
  split at h
  · rename_i t
    cases (show Rep _ _ _ _ _ _ from vr)
    refine ⟨t, rfl, ?_⟩
    split at h
    · rename_i ht
      rw [if_pos ht]
      refine ⟨ρ, M1, G1, as1, He, en.stp s1, w1, ?_⟩
      have h := h.stp s1
      cases e : eval T call b ρ M1 with
      | ok v M2 => rw [e] at h; exact fun H2 G2 as2 s2 w2 x vr => h H2 G2 as2 s2 w2 x (vr.back s1)
      | ex c fs M2 => rw [e] at h; exact h
      | bad => rw [e] at h; exact h
    · rename_i ht
      rw [if_neg ht]
      exact h H1 G1 as1 s1 w1 _ (show Rep _ _ _ _ _ _ from .bl false)
  · exact h.elim
theorem se_or {pa pb : Expr} {rest : List Expr} {a b : E} (ha : PE X pa (tE N T call W X a)) (hb : PE X (.BoolOp .Or (pb :: rest) pos) (tE N T call W X b)) : PE X (.BoolOp .Or (pa :: pb :: rest) pos) (tE N T call W X (.or a b)) := by
  refine PE.imp (pe_or ha hb) fun σ H Q ⟨ρ, M, G, as, He, en, wf, h⟩ => ?_
  rw [eval] at h
  refine ⟨ρ, M, G, as, He, en, wf, h.bind fun v M1 H1 G1 as1 e1 s1 w1 h x vr => ?_⟩
  split at h
  · rename_i t
    cases (show Rep _ _ _ _ _ _ from vr)
    refine ⟨t, rfl, ?_⟩
    split at h
    · rename_i ht
      rw [if_pos ht]
      exact h H1 G1 as1 s1 w1 _ (show Rep _ _ _ _ _ _ from .bl true)
    · rename_i ht
      rw [if_neg ht]
      refine ⟨ρ, M1, G1, as1, He, en.stp s1, w1, ?_⟩
      have h := h.stp s1
      cases e : eval T call b ρ M1 with
      | ok v M2 => rw [e] at h; exact fun H2 G2 as2 s2 w2 x vr => h H2 G2 as2 s2 w2 x (vr.back s1)
      | ex c fs M2 => rw [e] at h; exact h
      | bad => rw [e] at h; exact h
  · exact h.elim
theorem sw_and {pa pb : Expr} {rest : List Expr} {a b : E} (ha : PT X pa (tT N T call W X a)) (hb : PW X (.BoolOp .And (pb :: rest) pos) (tT N T call W X b)) : PW X (.BoolOp .And (pa :: pb :: rest) pos) (tT N T call W X (.and a b)) := by
  refine ⟨fun wh pins s σ H Q I h => (pw_and ha hb).run wh pins s σ H Q I ?_⟩
  obtain ⟨ρ, M, G, as, He, en, wf, h⟩ := h
  rw [eval] at h
  refine ⟨ρ, M, G, as, He, en, wf, h.bind fun v M1 H1 G1 as1 e1 s1 w1 h => ?_⟩
  split at h
  · rename_i t
    refine ⟨t, rfl, ?_⟩
    split at h
    · rename_i ht
      rw [if_pos ht]
      exact ⟨ρ, M1, G1, as1, He, en.stp s1, w1, h.stp s1⟩
    · rename_i ht
      rw [if_neg ht]
      obtain ⟨k, ek, q⟩ := h H1 G1 as1 s1 w1
      cases ek
      exact q
  · exact h.elim
theorem sw_or {pa pb : Expr} {rest : List Expr} {a b : E} (ha : PT X pa (tT N T call W X a)) (hb : PW X (.BoolOp .Or (pb :: rest) pos) (tT N T call W X b)) : PW X (.BoolOp .Or (pa :: pb :: rest) pos) (tT N T call W X (.or a b)) := by
  refine ⟨fun wh pins s σ H Q I h => (pw_or ha hb).run wh pins s σ H Q I ?_⟩
  obtain ⟨ρ, M, G, as, He, en, wf, h⟩ := h
  rw [eval] at h
  refine ⟨ρ, M, G, as, He, en, wf, h.bind fun v M1 H1 G1 as1 e1 s1 w1 h => ?_⟩
  split at h
  · rename_i t
    refine ⟨t, rfl, ?_⟩
    split at h
    · rename_i ht
      rw [if_pos ht]
      obtain ⟨k, ek, q⟩ := h H1 G1 as1 s1 w1
      cases ek
      exact q
    · rename_i ht
      rw [if_neg ht]
      exact ⟨ρ, M1, G1, as1, He, en.stp s1, w1, h.stp s1⟩
  · exact h.elim
theorem sw_and1 {pa : Expr} {a : E} (ha : PT X pa (tT N T call W X a)) : PW X (.BoolOp .And [pa] pos) (tT N T call W X a) := pw_and1 ha
theorem sw_or1 {pa : Expr} {a : E} (ha : PT X pa (tT N T call W X a)) : PW X (.BoolOp .Or [pa] pos) (tT N T call W X a) := pw_or1 ha
theorem se_one {op : BoolOp} {pa : Expr} {a : E} (ha : PE X pa (tE N T call W X a)) : PE X (.BoolOp op [pa] pos) (tE N T call W X a) := pe_one ha

theorem se_ife {pc pa pb : Expr} {c a b : E} (hc : PT X pc (tT N T call W X c)) (ha : PE X pa (tE N T call W X a)) (hb : PE X pb (tE N T call W X b)) : PE X (.IfExp pc pa pb pos) (tE N T call W X (.ife c a b)) := by
  refine PE.imp (pe_ifExp hc ha hb) fun σ H Q ⟨ρ, M, G, as, He, en, wf, h⟩ => ?_
  rw [eval] at h
  refine ⟨ρ, M, G, as, He, en, wf, h.bind fun v M1 H1 G1 as1 e1 s1 w1 h => ?_⟩
  obtain ⟨t, et, h⟩ := h.of
  refine ⟨t, et, ?_⟩
  show if t = true then tE N T call W X a σ H1 Q else tE N T call W X b σ H1 Q
  have h := h.stp s1
  split at h
  · rename_i ht
    rw [if_pos ht]
    refine ⟨ρ, M1, G1, as1, He, en.stp s1, w1, ?_⟩
    cases e : eval T call a ρ M1 with
    | ok v M2 => rw [e] at h; exact fun H2 G2 as2 s2 w2 x vr => h H2 G2 as2 s2 w2 x (vr.back s1)
    | ex c fs M2 => rw [e] at h; exact h
    | bad => rw [e] at h; exact h
  · rename_i ht
    rw [if_neg ht]
    refine ⟨ρ, M1, G1, as1, He, en.stp s1, w1, ?_⟩
    cases e : eval T call b ρ M1 with
    | ok v M2 => rw [e] at h; exact fun H2 G2 as2 s2 w2 x vr => h H2 G2 as2 s2 w2 x (vr.back s1)
    | ex c fs M2 => rw [e] at h; exact h
    | bad => rw [e] at h; exact h
end
end Fm
end

/-! ## part LH -/
section
set_option maxHeartbeats 4000000
namespace Fm
open PySem PySem.Spec L2

theorem Paired.getR {α β : Type} {F : α → β → Prop} : ∀ {xs : List α} {ys : List β} {i : Nat} {y : β}, Paired F xs ys → ys[i]? = some y → ∃ x, xs[i]? = some x ∧ F x y
  | _, _, _, _, .nil, e => by simp at e
  | _, _, 0, y, .cons h _, e => by simp at e; subst e; exact ⟨_, rfl, h⟩
  | _, _, i + 1, y, .cons _ r, e => by
    obtain ⟨d, h1, h2⟩ := Paired.getR r (i := i) (by simpa using e)
    exact ⟨d, by simpa using h1, h2⟩
theorem Paired.setR {α β : Type} {F : α → β → Prop} : ∀ {xs : List α} {ys : List β} (i : Nat) {x : α} {y : β}, Paired F xs ys → F x y → Paired F (xs.set i x) (ys.set i y)
  | _, _, _, _, _, .nil, _ => .nil
  | _, _, 0, _, _, .cons _ r, h => .cons h r
  | _, _, i + 1, _, _, .cons h r, q => .cons h (Paired.setR i r q)
theorem Paired.lengthR {α β : Type} {F : α → β → Prop} : ∀ {xs : List α} {ys : List β}, Paired F xs ys → xs.length = ys.length
  | _, _, .nil => rfl
  | _, _, .cons _ t => by simp [Paired.lengthR t]

section
variable {N : Nm} {w : World} {K : PySem.W.Frag} {M : Mem} {G H H0 : Hp} {as : List Addr}
theorem Wf.cell (f : Wf N w K G H as M) {n : Nat} {a : Addr} {c : Cell} (h : as[n]? = some a) (e : M[n]? = some c) : CellAt N w K G as H a c := f.mem n a c h e
theorem Stv.vr {v : V} {x : Val} (h : Stv N w K G as v x) : VR N w K G as H0 H v x := by
  cases x with
  | d x => exact h
  | r n => exact h
  | o x => exact h.elim
  | b x => exact h.elim
/-! ### dicts -/
theorem kD_inj {a b : L2.Key} (h : kD a = kD b) : a = b := by
  cases a <;> cases b <;> cases h <;> rfl
theorem kD_of {d : D} (h : keyOk d = true) : ∃ k, d = kD k := by
  cases d with
  | int i => exact ⟨.inl i, rfl⟩
  | str s => exact ⟨.inr s, rfl⟩
  | _ => cases h
theorem kD_kV {v : V} {k : L2.Key} (h : Rep N w K G v (kD k)) : v = L2.kV k := by
  cases k with
  | inl i => cases h; rfl
  | inr i => cases h; rfl
theorem kD_rp {v : V} {k : L2.Key} (h : RP N w K G as H v (kD k)) : v = L2.kV k := by
  rcases h with h | ⟨a, rfl, h, _⟩
  · exact kD_kV h
  · cases k <;> exact h.elim
theorem RP.dct {v : V} {kvs : List (D × D)} (h : RP N w K G as H v (.dct kvs)) (s : Sub G H) : ∃ a es, v = .ref a ∧ H a = some (.dK es) ∧ RepE N w K G es kvs := by
  rcases h with h | ⟨a, rfl, ⟨es, h1, h2⟩, _⟩
  · cases h with | dct _ h1 h2 => exact ⟨_, _, rfl, s _ _ h1, h2⟩
  · exact ⟨a, es, rfl, h1, h2⟩
theorem RepE.length : ∀ {es : List (L2.Key × V)} {kvs : List (D × D)}, RepE N w K G es kvs → es.length = kvs.length
  | _, _, .nil => rfl
  | _, _, .cons _ r => by rw [List.length_cons, List.length_cons, RepE.length r]
theorem RepE.keys : ∀ {es : List (L2.Key × V)} {kvs : List (D × D)}, RepE N w K G es kvs → kvs.map (·.1) = es.map fun e => kD e.1
  | _, _, .nil => rfl
  | _, _, .cons _ r => by rw [List.map_cons, List.map_cons, RepE.keys r]
theorem RepE.val {k : L2.Key} : ∀ {es : List (L2.Key × V)} {kvs : List (D × D)}, RepE N w K G es kvs → (L2.valV es k = none ∧ dgetD kvs (kD k) = none) ∨ ∃ v d, L2.valV es k = some v ∧ dgetD kvs (kD k) = some d ∧ Rep N w K G v d
  | _, _, .nil => .inl ⟨rfl, rfl⟩
  | _, _, .cons (k := j) (v := v) (d := d) (es := es) (kvs := kvs) h r => by
    by_cases e : j = k
    · subst e
      refine .inr ⟨v, d, L2.valV_pos (p := (j, v)) rfl, ?_, h⟩
      unfold dgetD
      rw [List.find?_cons_of_pos (by simp)]
      rfl
    · have e2 : ¬ kD j = kD k := fun z => e (kD_inj z)
      have q : dgetD ((kD j, d) :: kvs) (kD k) = dgetD kvs (kD k) := by
        unfold dgetD
        rw [List.find?_cons_of_neg (by simpa using e2)]
      rw [L2.valV_neg (p := (j, v)) e, q]
      exact RepE.val r
theorem RepE.any {k : L2.Key} : ∀ {es : List (L2.Key × V)} {kvs : List (D × D)}, RepE N w K G es kvs → (es.any fun e => decide (e.1 = k)) = kvs.any fun p => decide (p.1 = kD k)
  | _, _, .nil => rfl
  | _, _, .cons (k := j) h r => by
    rw [List.any_cons, List.any_cons, RepE.any r]
    congr 1
    by_cases e : j = k
    · subst e; simp
    · have e2 : ¬ kD j = kD k := fun z => e (kD_inj z)
      rw [decide_eq_false e, decide_eq_false e2]
theorem RepE.repl {k : L2.Key} {v : V} {d : D} (h : Rep N w K G v d) : ∀ {es : List (L2.Key × V)} {kvs : List (D × D)}, RepE N w K G es kvs →
    RepE N w K G (es.map fun e => if e.1 = k then (e.1, v) else e) (kvs.map fun p => if p.1 = kD k then (p.1, d) else p)
  | _, _, .nil => .nil
  | _, _, .cons (k := j) q r => by
    rw [List.map_cons, List.map_cons]
    by_cases e : j = k
    · subst e
      rw [if_pos rfl, if_pos rfl]
      exact .cons h (RepE.repl h r)
    · have e2 : ¬ kD j = kD k := fun z => e (kD_inj z)
      rw [if_neg e, if_neg e2]
      exact .cons q (RepE.repl h r)
theorem RepE.snoc {k : L2.Key} {v : V} {d : D} (h : Rep N w K G v d) : ∀ {es : List (L2.Key × V)} {kvs : List (D × D)}, RepE N w K G es kvs → RepE N w K G (es ++ [(k, v)]) (kvs ++ [(kD k, d)])
  | _, _, .nil => .cons h .nil
  | _, _, .cons q r => .cons q (RepE.snoc h r)
theorem RepE.put {k : L2.Key} {v : V} {d : D} {es : List (L2.Key × V)} {kvs : List (D × D)} (r : RepE N w K G es kvs) (h : Rep N w K G v d) : RepE N w K G (L2.putK es k v) (dputD kvs (kD k) d) := by
  unfold L2.putK dputD
  rw [RepE.any r]
  split
  · exact RepE.repl h r
  · exact RepE.snoc h r
theorem RepE.merge : ∀ {ms : List (L2.Key × V)} {nds : List (D × D)} {es : List (L2.Key × V)} {kvs : List (D × D)}, RepE N w K G es kvs → RepE N w K G ms nds → RepE N w K G (L2.mergeK es ms) (dmergeD kvs nds)
  | _, _, _, _, r, .nil => r
  | _, _, es, kvs, r, .cons (k := k) (v := v) (d := d) (es := ms) (kvs := nds) h q => by
    show RepE N w K G (L2.mergeK (L2.putK es k v) ms) (dmergeD (dputD kvs (kD k) d) nds)
    exact RepE.merge (RepE.put r h) q
theorem ixAt_lt {n : Nat} {i : Int} {j : Nat} (h : ixAt n i = some j) : j < n := (ixN_seq (show ixN n i = some j from h)).2.1
theorem atI_of {α : Type} {xs : List α} {i : Int} {j : Nat} {v : α} (h : ixAt xs.length i = some j) (e : xs[j]? = some v) : atI xs i = some v := by
  unfold atI
  rw [show ixN xs.length i = some j from h]
  exact e
end

def plainIx : Expr → Bool
  | .Slice .. => false
  | _ => true
theorem plainIx_of {b : Expr} (h : plainIx b = true) : PlainIx b := by
  intro o i
  cases b <;> first | rfl | cases h

section
variable {N : Nm} {T : Tab} {call : CallF} {W : WX} {X : Cx} {pos : Pos}
/-- d[y] of a dict, by values -/
def rIxD : R2 := fun x y H Q => ∃ a v, x = .ref a ∧ DGet H a y (some v) ∧ Q v H
theorem ix_dict (hu : X.A.units + 1 < cLine) : IxR X rIxD := by
  intro value slice pins s σ H x y v u Q I rx ry h hs
  obtain ⟨a, z, rfl, g, q⟩ := h
  obtain rfl : v = Value.ref a := rx
  have ty := dict_typeIs I g
  have run := d_getItem (A := X.A) (E := X.xe) (Q := EP X pins σ Q) hu I g ry fun w' s' I' r' => ⟨z, H, I', r', q⟩
  unfold PyProof.Rows.subscriptTail
  rw [getitemInPython_of_ne ty.not_modules]
  have rest : wpAny (model X.prog X.w) X.A (subscripted slice false (.ref a) u) (fun r s' => wpAny (model X.prog X.w) X.A (letTemporaryGo value (.ref a) r >>= fun _ => pure r) (EP X pins σ Q) X.xe s') X.xe s := by
    rw [hs]
    exact wpAny_operating (wpAny_mono run (fun r s' p => wpAny_bind (wpAny_letTemporaryGo (wpAny_pure p))) fun _ _ p => p)
  refine wpAny_bind (wpAny_bind (wpAny_specialOf ty PySem.F.slot_dict_getitem.lookup ?_))
  first
    | exact wpAny_pure (wpAny_bind rest)
    | exact wpAny_bind (wpAny_pure (wpAny_bind rest))
    | exact wpAny_bind rest
theorem se_ix {pa pi : Expr} {a i : E} (hu : X.A.units + 1 < cLine) (hp : plainIx pi = true) (ha : PE X pa (tE N T call W X a)) (hi : PE X pi (tE N T call W X i)) : PE X (.Subscript pa pi pos) (tE N T call W X (.ix a i)) := by
  refine PE.imp (pe_ix ((ix_list.or ix_tup).or (ix_dict hu)) ha hi (plainIx_of hp)) fun σ H Q ⟨ρ, M, G, as, He, en, wf, h⟩ => ?_
  rw [eval] at h
  refine ⟨ρ, M, G, as, He, en, wf, h.bind fun v M1 H1 G1 as1 e1 s1 w1 h x vr => ?_⟩
  refine ⟨ρ, M1, G1, as1, He, en.stp s1, w1, (h.stp s1).bind fun k M2 H2 G2 as2 e2 s2 w2 h y kr => ?_⟩
  have h := h.stp s2
  have vr2 := vr.stp s2
  have main : ∀ (d : D), v.peek = some d → (∃ dk dy, k.peek = some dk ∧ ixD d dk = some dy ∧ (∀ z, Rep N X.w X.K G2 z dy → Q z H2)) → (rIxL X.K x y H2 Q ∨ rIxT X.K x y H2 Q) ∨ rIxD x y H2 Q := by
    intro d ed ⟨dk, dy, ek, ei, q⟩
    have rx := vr2.peek ed
    have ry := kr.peek ek
    unfold ixD at ei
    split at ei
    · rename_i kvs dk'
      split at ei
      · rename_i hk
        obtain ⟨kk, rfl⟩ := kD_of hk
        obtain ⟨a, es, rfl, h1, h2⟩ := rx.dct w2.sub
        obtain rfl := kD_rp ry
        rcases h2.val (k := kk) with ⟨_, e⟩ | ⟨z, d', e3, e4, rz⟩
        · rw [e] at ei; cases ei
        · rw [e4] at ei
          cases ei
          exact .inr ⟨a, z, rfl, .inl ⟨es, kk, .inl h1, rfl, e3.symm⟩, q z rz⟩
      · cases ei
    · rename_i xs j
      obtain rfl := ry.int
      obtain ⟨a, vs, rfl, h1, h2⟩ := rx.lst w2.sub
      obtain ⟨m, em, ei⟩ := Option.bind_eq_some_iff.mp ei
      obtain ⟨z, ez, rz⟩ := h2.getD ei
      exact .inl <| .inl ⟨a, vs, j, z, rfl, rfl, SqL.of h1, atI_of (by rw [h2.length]; exact em) ez, q z rz⟩
    · rename_i xs j
      obtain rfl := ry.int
      obtain ⟨a, vs, rfl, h1, h2⟩ := rx.tup.tup_inv
      obtain ⟨m, em, ei⟩ := Option.bind_eq_some_iff.mp ei
      obtain ⟨z, ez, rz⟩ := h2.getD ei
      exact .inl <| .inr ⟨a, vs, j, z, rfl, rfl, SqT.sub h1 w2.sub, atI_of (by rw [h2.length]; exact em) ez, q z rz⟩
    · cases ei
  cases v with
  | r n =>
    obtain ⟨a, ha, rfl⟩ := vr2
    cases hM : M2[n]? with
    | none => simp only [hM] at h; exact h.elim
    | some c =>
      cases c with
      | lst xs =>
        simp only [hM] at h
        cases k with
        | d dk =>
          cases dk with
          | int j =>
            cases (show Rep N X.w X.K G2 y (.int j) from kr)
            cases e3 : (ixAt xs.length j).bind (xs[·]?) with
            | none => simp only [e3] at h; exact h.elim
            | some z =>
              simp only [e3] at h
              obtain ⟨m, em, ez⟩ := Option.bind_eq_some_iff.mp e3
              obtain ⟨vs, h1, h2⟩ := w2.cell ha hM
              obtain ⟨u, eu, ru⟩ := Paired.getR h2 ez
              refine .inl <| .inl ⟨a, vs, j, u, rfl, rfl, SqL.of h1, atI_of (by rw [Paired.lengthR h2]; exact em) eu, ?_⟩
              exact h H2 G2 as2 Stp.refl w2 u ru.vr
          | _ => exact h.elim
        | _ => exact h.elim
      | _ => simp only [hM] at h; exact h.elim
  | d d =>
    obtain ⟨x', ex, h3⟩ := Good.of h
    obtain ⟨dk, ek, h4⟩ := h3.of
    obtain ⟨dy, ey, h5⟩ := h4.of
    cases ex
    exact main d rfl ⟨dk, dy, ek, ey, fun z rz => h5 H2 G2 as2 Stp.refl w2 z rz⟩
  | o d =>
    obtain ⟨x', ex, h3⟩ := Good.of h
    obtain ⟨dk, ek, h4⟩ := h3.of
    obtain ⟨dy, ey, h5⟩ := h4.of
    cases ex
    exact main d rfl ⟨dk, dy, ek, ey, fun z rz => h5 H2 G2 as2 Stp.refl w2 z rz⟩
  | b d =>
    obtain ⟨x', ex, h3⟩ := Good.of h
    obtain ⟨dk, ek, h4⟩ := h3.of
    obtain ⟨dy, ey, h5⟩ := h4.of
    cases ex
    exact main d rfl ⟨dk, dy, ek, ey, fun z rz => h5 H2 G2 as2 Stp.refl w2 z rz⟩

/-! ### slices -/
def tO (N : Nm) (T : Tab) (call : CallF) (W : WX) (X : Cx) (es : List E) : TO := fun σ H Q => ∃ ρ M G as He, EnvOk N X.w X.K G as He H σ ρ ∧ Wf N X.w X.K G H as M ∧
  Good N X.w X.K W σ as G H (evalO T call es ρ M) fun v _ G' as' H' => Q v H'
theorem PO.imp {e : Option Expr} {t t' : TO} (h : PO X e t) (i : ∀ σ H Q, t' σ H Q → t σ H Q) : PO X e t' := ⟨fun pins s σ H Q I q => h.run pins s σ H Q I (i σ H Q q)⟩
theorem so_none : PO X none (tO N T call W X []) := PO.imp po_none fun σ H Q ⟨ρ, M, G, as, He, en, wf, h⟩ => h H G as Stp.refl wf
theorem so_some {pa : Expr} {a : E} {rest : List E} (ha : PE X pa (tE N T call W X a)) : PO X (some pa) (tO N T call W X (a :: rest)) := by
  refine PO.imp (po_some ha) fun σ H Q ⟨ρ, M, G, as, He, en, wf, h⟩ => ?_
  rw [evalO] at h
  refine ⟨ρ, M, G, as, He, en, wf, h.bind fun v M1 H1 G1 as1 e1 s1 w1 h x vr => ?_⟩
  split at h
  · rename_i i
    cases (show Rep _ _ _ _ _ _ from vr)
    exact ⟨i, rfl, h H1 G1 as1 s1 w1⟩
  · exact h.elim
theorem Reps.ofInts {G : Hp} : ∀ ns : List Int, Reps N X.w X.K G (ns.map V.int) (ns.map D.int)
  | [] => .nil
  | i :: ns => .cons (.int i) (Reps.ofInts ns)
theorem cutV_reps {G : Hp} {vs : List V} {ds : List D} (r : Reps N X.w X.K G vs ds) (lo hi : Option Int) : Reps N X.w X.K G (cutV vs lo hi) (cutD ds lo hi) := by
  unfold cutV cutD
  rw [r.length]
  exact (r.drop _).take _
theorem cut_map (ns : List Int) (lo hi : Option Int) : cutV (ns.map V.int) lo hi = (cutD ns lo hi).map V.int := by
  unfold cutV cutD
  simp
theorem se_sl {p2 : Pos} {pa : Expr} {pl ph : Option Expr} {a : E} {lo hi : List E} (ha : PE X pa (tE N T call W X a)) (hl : PO X pl (tO N T call W X lo)) (hh : PO X ph (tO N T call W X hi)) : PE X (.Subscript pa (.Slice pl ph none p2) pos) (tE N T call W X (.sl a lo hi)) := by
  refine PE.imp (pe_slice (sl_list.or sl_tupA) ha hl hh) fun σ H Q ⟨ρ, M, G, as, He, en, wf, h⟩ => ?_
  rw [eval] at h
  refine ⟨ρ, M, G, as, He, en, wf, h.bind fun v M1 H1 G1 as1 e1 s1 w1 h x vr => ?_⟩
  obtain ⟨d, ed, h⟩ := h.of
  refine ⟨ρ, M1, G1, as1, He, en.stp s1, w1, (h.stp s1).bind fun l M2 H2 G2 as2 e2 s2 w2 h => ?_⟩
  refine ⟨ρ, M2, G2, as2, He, (en.stp s1).stp s2, w2, (h.stp s2).bind fun u M3 H3 G3 as3 e3 s3 w3 h => ?_⟩
  have rx := ((vr.peek ed).stp s2).stp s3
  have s := s1.trans (s2.trans s3)
  have h := h.stp s3
  cases e4 : slD d l u with
  | none => rw [e4] at h; exact h.elim
  | some z =>
    rw [e4] at h
    have k : Out N X.w X.K M3 G3 as3 H3 z Q := fun H4 G4 as4 s4 w4 q qr => h H4 G4 as4 s4 w4 q (qr.back s)
    unfold slD at e4
    split at e4
    · cases e4
      obtain ⟨a, vs, rfl, h1, h2⟩ := rx.lst w3.sub
      exact .inl ⟨a, vs, rfl, SqL.of h1, fun p np => k.lst w3 np (cutV_reps h2 l u)⟩
    · rename_i ns
      cases e4
      obtain ⟨a, rfl, h1⟩ := rx.scr w3.sub
      refine .inl ⟨a, _, rfl, h1, fun p np => ?_⟩
      rw [cut_map]
      exact k.lst w3 np (Reps.ofInts _)
    · cases e4
end
end Fm
end

/-! ## part LI -/
section
set_option maxHeartbeats 4000000
namespace Fm
open PySem PySem.Spec L2

theorem CallR.imp {X : Cx} {f : Value} {r r' : List V → Hp → VK → Prop} (h : CallR X f r) (i : ∀ xs H Q, r' xs H Q → r xs H Q) : CallR X f r' := fun pins s σ H xs us Q I rv q => h pins s σ H xs us Q I rv (i xs H Q q)

section
variable (N : Nm) (w : World) (K : PySem.W.Frag)
def rP (g : List D → Option Val) : List V → Hp → VK → Prop := fun xs H Q => ∃ M G as ds v, Wf N w K G H as M ∧ Paired (RP N w K G as H) xs ds ∧ g ds = some v ∧ Out N w K M G as H v Q
end
theorem paired1 {α β : Type} {F : α → β → Prop} {xs : List α} {d : β} (h : Paired F xs [d]) : ∃ x, xs = [x] ∧ F x d := by
  cases h with
  | cons h1 h2 => cases h2; exact ⟨_, rfl, h1⟩
section
variable {N : Nm} {T : Tab} {call : CallF} {W : WX} {X : Cx} {pos : Pos}

theorem reps_flags {G : Hp} : ∀ {vs : List V} {ds : List D} {bs : List Bool}, Reps N X.w X.K G vs ds → flagsD ds = some bs → vs = bs.map V.bl
  | _, _, _, .nil, e => by cases e; rfl
  | _, _, bs, .cons (d := d) h r, e => by
    unfold flagsD at e
    split at e
    · rename_i hz; cases hz
    · rename_i b r' hz
      cases hz
      obtain ⟨cs, ec, rfl⟩ := Option.map_eq_some_iff.mp e
      cases h
      rw [reps_flags r ec]
      rfl
    · cases e
theorem reps_ints {G : Hp} : ∀ {vs : List V} {ds : List D} {bs : List Int}, Reps N X.w X.K G vs ds → intsD ds = some bs → vs = bs.map V.int
  | _, _, _, .nil, e => by cases e; rfl
  | _, _, bs, .cons (d := d) h r, e => by
    unfold intsD at e
    split at e
    · rename_i hz; cases hz
    · rename_i b r' hz
      cases hz
      obtain ⟨cs, ec, rfl⟩ := Option.map_eq_some_iff.mp e
      cases h
      rw [reps_ints r ec]
      rfl
    · cases e

theorem cl_len : CallR X (.builtin "len") (rP N X.w X.K lenD) := by
  refine CallR.imp call_len_seq fun xs H Q ⟨M, G, as, ds, v, wf, rs, e, k⟩ => ?_
  unfold lenD at e
  split at e <;> try (cases e; done)
  · cases e
    obtain ⟨x, rfl, rx⟩ := paired1 rs
    obtain ⟨a, vs, rfl, h1, h2⟩ := rx.lst wf.sub
    refine ⟨a, vs, rfl, .inl (SqL.of h1), ?_⟩
    rw [h2.length]
    exact k.int wf
  · cases e
    obtain ⟨x, rfl, rx⟩ := paired1 rs
    obtain ⟨a, vs, rfl, h1, h2⟩ := rx.tup.tup_inv
    refine ⟨a, vs, rfl, .inr (SqT.sub h1 wf.sub), ?_⟩
    rw [h2.length]
    exact k.int wf
theorem cl_abs : CallR X (.builtin "abs") (rP N X.w X.K absD) := by
  refine CallR.imp call_abs fun xs H Q ⟨M, G, as, ds, v, wf, rs, e, k⟩ => ?_
  unfold absD at e
  split at e <;> try (cases e; done)
  cases e
  obtain ⟨x, rfl, rx⟩ := paired1 rs
  obtain rfl := rx.int
  exact ⟨_, rfl, k.int wf⟩
theorem cl_int : CallR X (.type "int") (rP N X.w X.K intD) := by
  refine CallR.imp call_int1 fun xs H Q ⟨M, G, as, ds, v, wf, rs, e, k⟩ => ?_
  unfold intD at e
  split at e <;> try (cases e; done)
  · cases e
    obtain ⟨x, rfl, rx⟩ := paired1 rs
    obtain rfl := rx.int
    exact .inl ⟨_, rfl, k.int wf⟩
  · cases e
    obtain ⟨x, rfl, rx⟩ := paired1 rs
    obtain rfl := rx.bl
    exact .inr ⟨_, rfl, k.int wf⟩
theorem cl_all (hc : X.calm = true) : CallR X (.builtin "all") (rP N X.w X.K allD) := by
  refine CallR.imp (cr_all hc) fun xs H Q ⟨M, G, as, ds, v, wf, rs, e, k⟩ => ?_
  unfold allD at e
  split at e <;> try (cases e; done)
  obtain ⟨bs, eb, rfl⟩ := Option.map_eq_some_iff.mp e
  obtain ⟨x, rfl, rx⟩ := paired1 rs
  obtain ⟨a, vs, rfl, h1, h2⟩ := rx.lst wf.sub
  rw [reps_flags h2 eb] at h1
  exact ⟨a, bs, rfl, SqL.of h1, k.bl wf⟩
theorem cl_any (hc : X.calm = true) : CallR X (.builtin "any") (rP N X.w X.K anyD) := by
  refine CallR.imp (cr_any hc) fun xs H Q ⟨M, G, as, ds, v, wf, rs, e, k⟩ => ?_
  unfold anyD at e
  split at e <;> try (cases e; done)
  obtain ⟨bs, eb, rfl⟩ := Option.map_eq_some_iff.mp e
  obtain ⟨x, rfl, rx⟩ := paired1 rs
  obtain ⟨a, vs, rfl, h1, h2⟩ := rx.lst wf.sub
  rw [reps_flags h2 eb] at h1
  exact ⟨a, bs, rfl, SqL.of h1, k.bl wf⟩
theorem cl_sum (hc : X.calm = true) : CallR X (.builtin "sum") (rP N X.w X.K sumD) := by
  refine CallR.imp (cr_sum hc) fun xs H Q ⟨M, G, as, ds, v, wf, rs, e, k⟩ => ?_
  unfold sumD at e
  split at e <;> try (cases e; done)
  obtain ⟨bs, eb, rfl⟩ := Option.map_eq_some_iff.mp e
  obtain ⟨x, rfl, rx⟩ := paired1 rs
  obtain ⟨a, vs, rfl, h1, h2⟩ := rx.lst wf.sub
  rw [reps_ints h2 eb] at h1
  exact ⟨a, bs, rfl, SqL.of h1, k.int wf⟩
theorem cl_tuple : CallR X (.type "tuple") (rP N X.w X.K tupleD) := by
  refine CallR.imp call_tuple_of fun xs H Q ⟨M, G, as, ds, v, wf, rs, e, k⟩ => ?_
  unfold tupleD at e
  split at e <;> try (cases e; done)
  · cases e
    obtain ⟨x, rfl, rx⟩ := paired1 rs
    obtain ⟨a, vs, rfl, h1, h2⟩ := rx.lst wf.sub
    exact ⟨a, vs, rfl, .inl ⟨SqL.of h1, fun l nl => k.tup wf nl h2⟩⟩
  · cases e
    obtain ⟨x, rfl, rx⟩ := paired1 rs
    obtain ⟨a, vs, rfl, h1, h2⟩ := rx.tup.tup_inv
    exact ⟨a, vs, rfl, .inr ⟨SqT.sub h1 wf.sub, k.rep wf (.tup h1 h2)⟩⟩
theorem cl_list : CallR X (.type "list") (rP N X.w X.K listD) := by
  refine CallR.imp call_list_of fun xs H Q ⟨M, G, as, ds, v, wf, rs, e, k⟩ => ?_
  unfold listD at e
  split at e <;> try (cases e; done)
  · cases e
    obtain ⟨x, rfl, rx⟩ := paired1 rs
    obtain ⟨a, vs, rfl, h1, h2⟩ := rx.lst wf.sub
    exact ⟨a, vs, rfl, .inl (SqL.of h1), fun l nl => k.lst wf nl h2⟩
  · cases e
    obtain ⟨x, rfl, rx⟩ := paired1 rs
    obtain ⟨a, vs, rfl, h1, h2⟩ := rx.tup.tup_inv
    exact ⟨a, vs, rfl, .inr (SqT.sub h1 wf.sub), fun l nl => k.lst wf nl h2⟩

theorem sorted_uniq : ∀ {a b : List Int}, a.Perm b → a.Pairwise (· ≤ ·) → b.Pairwise (· ≤ ·) → a = b
  | [], b, h, _, _ => (List.Perm.nil_eq h).symm ▸ rfl
  | x :: xs, [], h, _, _ => by have := h.length_eq; simp at this
  | x :: xs, y :: ys, h, ha, hb => by
    have h1 : x ∈ y :: ys := h.subset List.mem_cons_self
    have h2 : y ∈ x :: xs := h.symm.subset List.mem_cons_self
    rw [List.pairwise_cons] at ha hb
    have e : x = y := by
      rcases List.mem_cons.mp h1 with e | m1
      · exact e
      · rcases List.mem_cons.mp h2 with e | m2
        · exact e.symm
        · exact Int.le_antisymm (ha.1 y m2) (hb.1 x m1)
    subst e
    rw [sorted_uniq ((List.perm_cons x).mp h) ha.2 hb.2]
theorem sortI_sorted (xs : List Int) : (sortI xs).Pairwise (· ≤ ·) := by
  have h := List.pairwise_mergeSort (le := fun a b : Int => decide (a ≤ b)) (fun a b c h1 h2 => by simp at *; omega) (fun a b => by simp; omega) xs
  exact h.imp fun h => by simpa using h
theorem intsD_eq : ∀ {ds : List D} {ks : List Int}, intsD ds = some ks → ds = ks.map D.int
  | [], ks, h => by cases h; rfl
  | d :: ds, ks, h => by
    cases d with
    | int i =>
      unfold intsD at h
      cases e : intsD ds with
      | none => rw [e] at h; cases h
      | some r => rw [e] at h; cases h; rw [intsD_eq e]; rfl
    | _ => cases h
theorem kD_ints : ∀ {ks : List L2.Key} {is : List Int}, ks.map kD = is.map D.int → ks = is.map Sum.inl
  | [], [], _ => rfl
  | [], _ :: _, h => by cases h
  | _ :: _, [], h => by cases h
  | k :: ks, i :: is, h => by
    rw [List.map_cons, List.map_cons] at h
    injection h with h1 h2
    rw [kD_ints h2]
    cases k with
    | inl j => cases h1; rfl
    | inr j => cases h1
open PySem.W in
theorem cl_sorted (hcalm : X.calm = true) (hu : X.A.units + 64 < cLine) : CallR X (.builtin "sorted") (rP N X.w X.K sortedD) := by
  intro pins s σ H vs us Q I r ⟨M, G, as, ds, v, wf, rs, e, k⟩
  unfold sortedD at e
  split at e <;> try (cases e; done)
  · rename_i kvs
    obtain ⟨ks, e1, e2⟩ := Option.bind_eq_some_iff.mp e
    split at e2
    · rename_i h64
      cases e2
      obtain ⟨x, rfl, rx⟩ := paired1 rs
      obtain ⟨a, es, rfl, h1, h2⟩ := rx.dct wf.sub
      have hk : es.map (·.1) = ks.map Sum.inl := kD_ints (by
        rw [List.map_map]
        exact h2.keys.symm.trans (intsD_eq e1))
      refine call_sortedDI hcalm pins s σ H [.ref a] us Q I r ⟨a, es, ks, rfl, .inl h1, hk, h64, fun ys p hp hs np => ?_⟩
      have hy : ys = sortI ks := sorted_uniq (hp.trans (List.mergeSort_perm ks _).symm) hs (sortI_sorted ks)
      subst hy
      exact k.lst wf np (Reps.ofInts _)
    · cases e2
  rename_i xs
  split at e
  · rename_i hok
    cases e
    obtain ⟨x, rfl, rx⟩ := paired1 rs
    obtain ⟨a, ws, rfl, h1, h2⟩ := rx.lst wf.sub
    unfold sortOk at hok
    simp only [Bool.and_eq_true, decide_eq_true_eq, List.all_eq_true] at hok
    obtain ⟨⟨hal, hk⟩, hL⟩ := hok
    obtain ⟨its, rv, hl, _⟩ := I.list (SqL.of h1)
    rw [Vals.ref1 r]
    -- the items with their data
    have hz : ∀ (ws : List V) (xs : List D) (its : List Value), Reps N X.w X.K G ws xs → Vals ws its → D.plains xs = true →
        EachIs (fun (u : Value) (b : V × D) => RelV b.1 u) its (ws.zip xs) ∧ EachIs (fun (u : Value) (b : V × D) => ∃ as, Reads s.heap u b.2.py as) its (ws.zip xs) ∧ (ws.zip xs).map (·.2) = xs ∧ (ws.zip xs).map (·.1) = ws ∧ (∀ p ∈ ws.zip xs, Rep N X.w X.K G p.1 p.2) := by
      intro ws
      induction ws with
      | nil =>
        intro xs its h2 rv _
        cases h2
        cases rv
        exact ⟨.nil, .nil, rfl, rfl, fun p hp => nomatch hp⟩
      | cons v ws ih =>
        intro xs its h2 rv pl
        cases h2 with
        | cons h r2 =>
          cases rv with
          | cons q rv =>
            rw [D.plains, Bool.and_eq_true] at pl
            obtain ⟨i1, i2, i3, i4, i5⟩ := ih _ _ r2 rv pl.2
            refine ⟨.cons q i1, .cons ?_ i2, by simp only [List.zip_cons_cons, List.map_cons, i3], by simp only [List.zip_cons_cons, List.map_cons, i4], fun p hp => ?_⟩
            · exact Dp.reads I _ _ _ (Rep.dp (Rep.sub wf.sub h) pl.1) q
            · rcases List.mem_cons.mp hp with rfl | hp
              · exact h
              · exact i5 p hp
    have hpl : ∀ l : List D, (∀ d ∈ l, d.plain = true) → D.plains l = true := by
      intro l
      induction l with
      | nil => intro _; rfl
      | cons d l ih => intro h; rw [D.plains, h d List.mem_cons_self, ih fun d hd => h d (List.mem_cons_of_mem _ hd)]; rfl
    have pl := hpl xs fun d hd => eqOk_plain (hal d hd).1
    obtain ⟨i1, i2, i3, i4, i5⟩ := hz ws xs its h2 rv pl
    have memx : ∀ p ∈ ws.zip xs, p.2 ∈ xs := fun p hp => by rw [← i3]; exact List.mem_map_of_mem hp
    have nn : ∀ d ∈ xs, d ≠ .non := by
      intro d hd
      rw [Bool.or_eq_true] at hk
      rcases hk with hk | hk
      · have z := List.all_eq_true.mp hk d hd
        rintro rfl
        cases z
      · have z := List.all_eq_true.mp hk d hd
        rintro rfl
        cases z
    refine W.sorted_data (enc := fun b : V × D => b.2.py) (bs := ws.zip xs) hl.isList i1 i2 ?_ ?_ ?_ (fun b hb => ?_) fun out ho eo => ?_
    · intro d hd d' hd'
      obtain ⟨p, hp, rfl⟩ := List.mem_map.mp hd
      obtain ⟨q, hq, rfl⟩ := List.mem_map.mp hd'
      have z1 := hal _ (memx p hp)
      have z2 := hal _ (memx q hq)
      rw [D.alike_py _ _ (eqOk_plain z1.1) (eqOk_plain z2.1)]
      exact z1.2 _ (memx q hq)
    · rw [Bool.or_eq_true] at hk
      rcases hk with hk | hk
      · refine .inl fun d hd => ?_
        obtain ⟨p, hp, rfl⟩ := List.mem_map.mp hd
        have z := List.all_eq_true.mp hk _ (memx p hp)
        split at z
        · rename_i y r' e1
          rw [e1]
          exact ⟨y.py, D.pys r', by rw [D.py, D.pys]⟩
        · cases z
      · refine .inr fun d hd => ?_
        obtain ⟨p, hp, rfl⟩ := List.mem_map.mp hd
        have z := List.all_eq_true.mp hk _ (memx p hp)
        have z2 := eqOk_plain (hal _ (memx p hp)).1
        generalize p.2 = d at z z2 ⊢
        cases d <;> simp_all [D.py, D.plain]
    · have e5 := congrArg List.length i3
      rw [List.length_map] at e5
      rw [e5]; exact hL
    · have z := D.depth_eqOk (hal _ (memx b hb)).1
      rw [D.depth_py]
      omega
    · -- the new list
      obtain ⟨ep, he'⟩ := PyProof.Rows.sortedAll_at s.heap its (List.toArray out)
      have hms : ((ws.zip xs).mergeSort (W.dataLe false fun b : V × D => b.2.py)).map (·.2) = xs.mergeSort leD := by
        rw [List.map_mergeSort (s := leD), i3]
        intro p hp q hq
        rw [W.dataLe_eq]
        show (!W.dataLt q.2.py p.2.py) = _
        have z1 := hal _ (memx p hp)
        have z2 := hal _ (memx q hq)
        rw [D.ltb_py _ _ (eqOk_plain z2.1) (eqOk_plain z1.1) (z2.2 _ (memx p hp)) (nn _ (memx q hq))]
        rfl
      have gen : ∀ (l : List (V × D)) (out : List Value), EachIs (fun (u : Value) (b : V × D) => RelV b.1 u) out l → (∀ p ∈ l, Rep N X.w X.K G p.1 p.2) → Vals (l.map (·.1)) out ∧ Reps N X.w X.K G (l.map (·.1)) (l.map (·.2)) := by
        intro l
        induction l with
        | nil => intro out h _; cases h; exact ⟨.nil, .nil⟩
        | cons p l ih =>
          intro out h hp
          cases h with
          | cons q h =>
            obtain ⟨j1, j2⟩ := ih _ h fun p hp' => hp p (List.mem_cons_of_mem _ hp')
            exact ⟨.cons q j1, .cons (hp p List.mem_cons_self) j2⟩
      obtain ⟨j1, j2⟩ := gen _ out eo fun p hp => i5 p (List.mem_mergeSort.mp hp)
      rw [hms] at j2
      have hlen : (((ws.zip xs).mergeSort (W.dataLe false fun b : V × D => b.2.py)).map (·.1)).length ≤ sizeLine := by
        rw [j2.length, List.length_mergeSort]; exact hL
      exact ⟨.ref _, upd H (s.heap.objs.size + 1) (.lst _), I.laid (t' := s.toks) (fun _ _ => PyProof.Rows.sortedAll_old) (Nat.le_succ _) ⟨hlen, out, ep, j1, he'⟩, rfl, k.lst wf (I.hok.fresh (Nat.le_succ _)) j2⟩
  · cases e
end
end Fm
end

/-! ## part LJ -/
section
set_option maxHeartbeats 4000000
namespace Fm
open PySem PySem.Spec L2

def Ty.s : Ty → Str
  | .int => "int" | .bool => "bool" | .str => "str" | .tuple => "tuple" | .list => "list" | .dict => "dict"
def Pr.s : Pr → Str
  | .len => "len" | .abs => "abs" | .int => "int" | .sum => "sum" | .all => "all" | .any => "any" | .tuple => "tuple" | .list => "list" | .sorted => "sorted" | .min => "min" | .max => "max" | .dict => "dict"
theorem kit_tab : ∀ a ∈ ["NoneType", "bool", "int", "str", "tuple", "list", "dict"], ∀ t ∈ [Ty.int, .bool, .str, .tuple, .list, .dict], kitB a t.nm = some (decide (a = t.nm) || (decide (a = "bool") && decide (t.nm = "int"))) := by decide +kernel
theorem boot_ty (t : Ty) : bootBuiltins t.s = some (.type t.nm) := by cases t <;> decide +kernel
theorem ty_ok (t : Ty) (d : D) (a : String) (e : d.ty = some a) : isT t d = some (decide (a = t.nm) || (decide (a = "bool") && decide (t.nm = "int"))) := by
  cases d <;> cases e <;> cases t <;> rfl
theorem ty_mem (d : D) (a : String) (e : d.ty = some a) : a ∈ ["NoneType", "bool", "int", "str", "tuple", "list", "dict"] := by
  cases d <;> cases e <;> simp

section
variable {N : Nm} {T : Tab} {call : CallF} {W : WX} {X : Cx} {pos : Pos}
theorem rep_kit {pins : List (Addr × Obj)} {σ : St} {H : Hp} {s : Shared} {x : V} {d : D} {u : Value} {a : String} (I : L2.Inv X pins σ H s) (rx : RelV x u) (r : Rep N X.w X.K H x d) (e : d.ty = some a) :
    ∃ P : Heap → Prop, PySem.W.KitX X.K u (.type a) P ∧ P s.heap ∧ u ≠ .builtin "__main__.__loader__#opaque" := by
  cases r with
  | non => cases e; exact kit_of I rx (.base .non)
  | bl b => cases e; exact kit_of I rx (.base (.bl b))
  | int i => cases e; exact kit_of I rx (.base (.int i))
  | str s => cases e; exact kit_of I rx (.base (.str s))
  | lst h _ => cases e; exact kit_of I rx (.base (.lst h))
  | tup h _ =>
    cases e
    rcases h with (h | ⟨o, h⟩) | ⟨o, its, n, h, hc, _⟩
    · exact kit_of I rx (.base (.tup h))
    · exact kit_of I rx (.fTuple h)
    · exact kit_of I rx (.kTuple h hc)
  | scr h =>
    cases e
    rcases h with (h | ⟨o, h⟩) | ⟨o, its, n, h, hc, _⟩
    · exact kit_of I rx (.base (.lst h))
    · exact kit_of I rx (.base (.frz h))
    · exact kit_of I rx (.kList h hc)
  | dct _ h _ =>
    cases e
    obtain ⟨_, _, vs, _, o, ep, es, h1, h2, _⟩ := dk_of I.hok h
    cases (show u = Value.ref _ from rx)
    exact ⟨_, PySem.W.kitx_dict, ⟨o, h1, h2.1⟩, fun z => nomatch z⟩
  | obj h _ => cases e
theorem cl_isi : CallR X (.builtin "isinstance") (fun xs H Q => ∃ (x : V) (d : D) (t : Ty) (b : Bool), xs = [x, .ty t.nm] ∧ Rep N X.w X.K H x d ∧ isT t d = some b ∧ Q (.bl b) H) := by
  intro pins s σ H xs us Q I r ⟨x, d, t, b, e, rx, et, q⟩
  subst e
  obtain ⟨u1, u2, rfl, r1, r2⟩ := vals2 r
  cases (show u2 = Value.type t.nm from r2)
  cases ea : d.ty with
  | none =>
    cases d <;> first | (cases ea; done) | (cases t <;> cases et)
  | some a =>
    obtain ⟨P, Z, p, hx⟩ := rep_kit I r1 rx ea
    have hk := kit_tab a (ty_mem d a ea) t (by cases t <;> simp)
    rw [ty_ok t d a ea] at et
    cases et
    exact PySem.W.kia_one Z I.kIn p (kit_ty hk) hx fun tk => ⟨.bl _, H, I.tok tk, rfl, q⟩
theorem se_isi {p p2 : Pos} {pa : Expr} {a : E} {t : Ty} (hg : Gl X "isinstance") (hm : X.mg "isinstance" = none) (hgt : Gl X t.s) (hmt : X.mg t.s = none) (hs : notStar pa = true) (ha : PE X pa (tE N T call W X a)) :
    PE X (.Call (.Name "isinstance" p) [pa, .Name t.s p2] [] pos) (tE N T call W X (.isi a t)) := by
  have hty : PE X (.Name t.s p2) (tC (.ty t.nm)) := pe_bltn hgt hmt (boot_ty t) rfl (by cases t <;> decide) (by cases t <;> decide)
  refine PE.imp (pe_callB (cl_isi (N := N)) hg hm PyProof.Rows.boot_isinstance (pa_cons ha (pa_cons hty pa_nil rfl) (starEach_of hs)) (by decide) (by decide) (starEach_of hs)) fun σ H Q ⟨ρ, M, G, as, He, en, wf, h⟩ => ?_
  rw [eval] at h
  refine ⟨ρ, M, G, as, He, en, wf, h.bind fun v M1 H1 G1 as1 e1 s1 w1 h x vr => ?_⟩
  obtain ⟨d, ed, h⟩ := h.of
  obtain ⟨b, eb, h⟩ := h.of
  exact ⟨x, d, t, b, rfl, (vr.peek ed).rep w1.sub, eb, h H1 G1 as1 s1 w1 _ (show Rep _ _ _ _ _ _ from .bl b)⟩
theorem back_of {pos : Pos} : ∀ {pes : List Expr} {env : PySem.Env}, pes.all notStar = true → (backTo pos (starEach pes env)).any (·.1) = false
  | [], _, _ => rfl
  | e :: es, env, h => by
    rw [List.all_cons, Bool.and_eq_true] at h
    have ih := back_of (pos := pos) (env := env) h.2
    rw [starEach_of h.1]
    unfold backTo at ih ⊢
    rw [List.map_cons, List.any_cons]
    exact ih
theorem se_prB {p : Pos} {x : Str} {id : String} {pr : Pr} {pe : Expr} {pes : List Expr} {es : List E} (hc : CallR X (.builtin id) (rP N X.w X.K (prD pr))) (hg : Gl X x) (hm : X.mg x = none) (hv : bootBuiltins x = some (.builtin id)) (hn : x ≠ "__name__") (hd : (x == ("__debug__" : Str)) = false)
    (hs : (pe :: pes).all notStar = true) (h : PA X (pe :: pes) (tPs N T call W X es)) : PE X (.Call (.Name x p) (pe :: pes) [] pos) (tE N T call W X (.pr pr es)) := by
  have hs' := hs
  rw [List.all_cons, Bool.and_eq_true] at hs'
  refine PE.imp (pe_callB hc hg hm hv h hn hd (starEach_of hs'.1) (back_of hs'.2)) fun σ H Q ⟨ρ, M, G, as, He, en, wf, h⟩ => ?_
  rw [eval] at h
  refine ⟨ρ, M, G, as, He, en, wf, h.bind fun xs M1 H1 G1 as1 e1 s1 w1 h vs rs => ?_⟩
  have h := h.stp s1
  cases e : prD pr xs with
  | none => rw [e] at h; exact h.elim
  | some z =>
    rw [e] at h
    exact ⟨M1, G1, as1, xs, z, w1, rs, e, fun H3 G3 as3 s3 w3 q qr => h H3 G3 as3 s3 w3 q (qr.back s1)⟩
theorem se_prT {p : Pos} {x : Str} {id : String} {pr : Pr} {pe : Expr} {pes : List Expr} {es : List E} (hc : CallR X (.type id) (rP N X.w X.K (prD pr))) (hg : Gl X x) (hm : X.mg x = none) (hv : bootBuiltins x = some (.type id)) (hn : x ≠ "__name__") (hd : (x == ("__debug__" : Str)) = false)
    (hs : (pe :: pes).all notStar = true) (h : PA X (pe :: pes) (tPs N T call W X es)) : PE X (.Call (.Name x p) (pe :: pes) [] pos) (tE N T call W X (.pr pr es)) := by
  have hs' := hs
  rw [List.all_cons, Bool.and_eq_true] at hs'
  refine PE.imp (pe_callTy hc hg hm hv h hn hd (starEach_of hs'.1) (back_of hs'.2)) fun σ H Q ⟨ρ, M, G, as, He, en, wf, h⟩ => ?_
  rw [eval] at h
  refine ⟨ρ, M, G, as, He, en, wf, h.bind fun xs M1 H1 G1 as1 e1 s1 w1 h vs rs => ?_⟩
  have h := h.stp s1
  cases e : prD pr xs with
  | none => rw [e] at h; exact h.elim
  | some z =>
    rw [e] at h
    exact ⟨M1, G1, as1, xs, z, w1, rs, e, fun H3 G3 as3 s3 w3 q qr => h H3 G3 as3 s3 w3 q (qr.back s1)⟩
theorem se_pr {p : Pos} {pr : Pr} {pe : Expr} {pes : List Expr} {es : List E} (hu : X.A.units + 64 < cLine) (hcalm : X.calm = true) (hg : Gl X pr.s) (hm : X.mg pr.s = none) (hs : (pe :: pes).all notStar = true) (h : PA X (pe :: pes) (tPs N T call W X es)) :
    PE X (.Call (.Name pr.s p) (pe :: pes) [] pos) (tE N T call W X (.pr pr es)) := by
  cases pr with
  | len => exact se_prB (pr := .len) cl_len hg hm boot_len (by decide) (by decide) hs h
  | abs => exact se_prB (pr := .abs) cl_abs hg hm PyProof.Rows.boot_abs (by decide) (by decide) hs h
  | int => exact se_prT (pr := .int) cl_int hg hm PyProof.Rows.boot_int (by decide) (by decide) hs h
  | sum => exact se_prB (pr := .sum) (cl_sum hcalm) hg hm PyProof.Rows.boot_sum (by decide) (by decide) hs h
  | all => exact se_prB (pr := .all) (cl_all hcalm) hg hm PyProof.Rows.boot_all (by decide) (by decide) hs h
  | any => exact se_prB (pr := .any) (cl_any hcalm) hg hm PyProof.Rows.boot_any (by decide) (by decide) hs h
  | tuple => exact se_prT (pr := .tuple) cl_tuple hg hm PyProof.Rows.boot_tuple (by decide) (by decide) hs h
  | list => exact se_prT (pr := .list) cl_list hg hm PyProof.Rows.boot_list (by decide) (by decide) hs h
  | sorted => exact se_prB (pr := .sorted) (cl_sorted hcalm hu) hg hm PyProof.Rows.boot_sorted (by decide) (by decide) hs h
  | min => exact se_prB (pr := .min) (fun pins s σ H xs us Q I r ⟨_, _, _, _, _, _, _, e, _⟩ => by cases e) hg hm PyProof.Rows.boot_min (by decide) (by decide) hs h
  | max => exact se_prB (pr := .max) (fun pins s σ H xs us Q I r ⟨_, _, _, _, _, _, _, e, _⟩ => by cases e) hg hm PyProof.Rows.boot_max (by decide) (by decide) hs h
  | dict => exact se_prT (pr := .dict) (fun pins s σ H xs us Q I r ⟨_, _, _, _, _, _, _, e, _⟩ => by cases e) hg hm PyProof.Rows.boot_dict (by decide) (by decide) hs h
end
end Fm
end

/-! ## part LK -/
section
set_option maxHeartbeats 4000000
namespace Fm
open PySem PySem.Spec L2

section
variable {N : Nm} {w : World} {K : PySem.W.Frag} {M : Mem} {G H H0 : Hp} {as : List Addr}
theorem Wf.push (f : Wf N w K G H as M) {a : Addr} {c : Cell} (h : CellAt N w K G as H a c) (g : G a = none) (n : a ∉ as) : Wf N w K G H (as ++ [a]) (M ++ [c]) where
  sub := f.sub
  len := by rw [List.length_append, List.length_append, f.len]; rfl
  mem := fun i b u h1 h2 => by
    have hp : ∀ (n : Nat) (x : Addr), as[n]? = some x → (as ++ [a])[n]? = some x := fun n x e => by
      rw [List.getElem?_append_left (List.getElem?_eq_some_iff.mp e).1]; exact e
    by_cases hi : i < as.length
    · rw [List.getElem?_append_left hi] at h1
      rw [List.getElem?_append_left (by rw [← f.len]; exact hi)] at h2
      exact (f.mem i b u h1 h2).mono (fun _ z => z) Sub.refl hp
    · rw [List.getElem?_append_right (by omega)] at h1
      rw [List.getElem?_append_right (by rw [← f.len]; omega)] at h2
      have e : i - as.length = 0 := by
        cases hj : i - as.length with
        | zero => rfl
        | succ j => rw [hj] at h1; simp at h1
      rw [e] at h1
      rw [← f.len, e] at h2
      simp at h1 h2
      subst h1 h2
      exact h.mono (fun _ z => z) Sub.refl hp
  nd := List.nodup_append.mpr ⟨f.nd, by simp, fun x hx y hy => by
    simp at hy
    rintro rfl
    exact n (hy ▸ hx)⟩
  out := fun b hb => by
    rcases List.mem_append.mp hb with hb | hb
    · exact f.out b hb
    · simp at hb; subst hb; exact g
theorem Stp.push {as0 : List Addr} {G0 Ha : Hp} {a : Addr} (s : Stp as0 G0 Ha as G H) (n : Ha a = none) : Stp as0 G0 Ha (as ++ [a]) G H where
  ext := s.ext
  pre := by
    obtain ⟨m, rfl⟩ := s.pre
    exact ⟨m ++ [a], by simp⟩
  keep := s.keep
  free := s.free
  new := fun b hb => by
    rcases List.mem_append.mp hb with hb | hb
    · exact s.new b hb
    · simp at hb; subst hb; exact .inr n
  live := s.live
theorem Stp.fresh {as0 : List Addr} {G0 Ha : Hp} {p : Addr} (s : Stp as0 G0 Ha as G H) (np : H p = none) : Ha p = none := by
  cases e : Ha p with
  | none => rfl
  | some u =>
    obtain ⟨u', e'⟩ := s.live p u e
    rw [np] at e'; cases e'
theorem stv_map {vs : List V} {xs : List D} (h : Reps N w K G vs xs) : Paired (Stv N w K G as) vs (xs.map Val.d) := by
  induction xs generalizing vs with
  | nil => cases h; exact .nil
  | cons x xs ih => cases h with | cons h1 h2 => exact .cons h1 (ih h2)
end

section
variable {N : Nm} {T : Tab} {call : CallF} {W : WX} {X : Cx} {pos : Pos}
theorem se_mlst {pes : List Expr} {es : List E} (h : PA X pes (tAs N T call W X es)) : PE X (.List pes pos) (tE N T call W X (.mlst es)) := by
  refine PE.imp (pe_lst h) fun σ H Q ⟨ρ, M, G, as, He, en, wf, h⟩ => ?_
  rw [eval] at h
  refine ⟨ρ, M, G, as, He, en, wf, h.bind fun xs M1 H1 G1 as1 e1 s1 w1 h vs rs => ?_⟩
  obtain ⟨hf, h⟩ := h.ite
  refine ⟨by rw [Paired.lengthR rs]; exact of_decide_eq_true hf, fun p np => ?_⟩
  have s2 : Stp as G H as1 G1 (upd H1 p (.lst vs)) := s1.trans (Stp.new_ np w1.sub)
  have w2 : Wf N X.w X.K G1 (upd H1 p (.lst vs)) as1 M1 := w1.new_ np
  refine h _ _ (as1 ++ [p]) (s2.push (s1.fresh np)) (w2.push (c := .lst xs) ⟨vs, upd_same, rs⟩ (w1.gnone np) (w1.notin np)) _ ⟨p, ?_, rfl⟩
  rw [← w1.len]
  simp
theorem se_mref {pe : Expr} {e : E} (h : PE X pe (tE N T call W X e)) : PE X pe (tE N T call W X (.mref e)) := by
  refine PE.imp h fun σ H Q ⟨ρ, M, G, as, He, en, wf, h⟩ => ?_
  rw [eval] at h
  refine ⟨ρ, M, G, as, He, en, wf, h.bind fun v M1 H1 G1 as1 e1 s1 w1 h x vr => ?_⟩
  split at h
  · rename_i xs
    obtain ⟨a, rfl, ⟨vs, h1, h2⟩, h3, h4, h5⟩ := vr
    refine h _ _ (as1 ++ [a]) (s1.push h5) (w1.push (c := .lst (xs.map Val.d)) ⟨vs, h1, stv_map h2⟩ h3 h4) _ ⟨a, ?_, rfl⟩
    rw [← w1.len]
    simp
  · exact h.elim

/-! ### calls -/
/-- the promise of a def: what the little language's run says -/
def spF (N : Nm) (w : World) (K : PySem.W.Frag) (call : CallF) (np f : Nat) : Sp := fun vs H Q Ex => ∃ M G as xs, Wf N w K G H as M ∧ Paired (Stv N w K G as) vs xs ∧ xs.length = np ∧
  Good N w K (fun c d _ H => Ex c d H) [] as G H (call f xs M) fun v _ G' as' H' => ∀ x, VR N w K G' as' H H' x v → Q x H'
theorem se_call {k f np : Nat} {fa : Addr} {fd : FuncData} {ps : List Str} {x : Str} {p : Pos} {pe : Expr} {pes : List Expr} {es : List E} (F : FnOk X.prog X.w X.K X.mg X.base (L2.CX X.prog X.w) k fa fd ps (spF N X.w X.K call np f)) (hr : Room k X.A)
    (hg : Gl X x) (hm : X.mg x = some (.ref fa)) (hk : PySem.W.keepIn X.K (.ref fa) = true) (hb : Binds X.K fd ps []) (tk : Takes X W) (hd : (x == ("__debug__" : Str)) = false) (hs : (pe :: pes).all notStar = true) (hl : es.length = np)
    (h : PA X (pe :: pes) (tAs N T call W X es)) : PE X (.Call (.Name x p) (pe :: pes) [] pos) (tE N T call W X (.call f es)) := by
  have hs' := hs
  rw [List.all_cons, Bool.and_eq_true] at hs'
  refine PE.imp (pe_callS F hr hg hm hk hb (E := WE W) (fun σ => passAt tk σ) h hd (starEach_of hs'.1) (back_of hs'.2)) fun σ H Q ⟨ρ, M, G, as, He, en, wf, h⟩ => ?_
  rw [eval] at h
  refine ⟨ρ, M, G, as, He, en, wf, h.bind fun xs M1 H1 G1 as1 e1 s1 w1 h vs rs => ?_⟩
  have hlen : ∀ (es : List E) (ρ : Env) (M : Mem) (xs : List Val) (M1 : Mem), evalAs T call es ρ M = .ok xs M1 → xs.length = es.length := by
    intro es
    induction es with
    | nil => intro ρ M xs M1 e; rw [evalAs] at e; cases e; rfl
    | cons a es ih =>
      intro ρ M xs M1 e
      rw [evalAs] at e
      cases e1 : eval T call a ρ M with
      | bad => rw [e1] at e; cases e
      | ex c fs M => rw [e1] at e; cases e
      | ok v M2 =>
        rw [e1, Res.bind_ok] at e
        cases e2 : v.toArg with
        | none => rw [e2] at e; cases e
        | some y =>
          rw [e2, Res.of_some, Res.bind_ok] at e
          cases e3 : evalAs T call es ρ M2 with
          | bad => rw [e3] at e; cases e
          | ex c fs M => rw [e3] at e; cases e
          | ok ys M3 =>
            rw [e3] at e
            cases e
            rw [List.length_cons, List.length_cons, ih ρ M2 _ _ e3]
  refine ⟨M1, G1, as1, xs, w1, rs, (hlen es ρ M xs M1 e1).trans hl, ?_⟩
  have h := h.stp s1
  cases e : call f xs M1 with
  | ok v M2 => rw [e] at h; exact fun H2 G2 as2 s2 w2 x vr => h H2 G2 as2 s2 w2 x (vr.back s1)
  | ex c fs M2 => rw [e] at h; exact h
  | bad => rw [e] at h; exact h
end
end Fm
end

/-! ## part LL -/
section
set_option maxHeartbeats 4000000
namespace Fm
open PySem PySem.Spec L2

/-! ### enumerate(tuple) -/
set_option maxHeartbeats 1000000 in
theorem meets_enum1 {v : Value} {o : Obj} {H : Heap → Prop} (B : Begins v o H) :
    Meets (Builtin.«enumerate.__new__» ⟨[.type "enumerate", v], []⟩) (fun _ R s => H s.heap ∧
      R (.ok (.ret (.ref (s.heap.push o).objs.size))) { s with heap := (s.heap.push o).push { cls := .type "enumerate", data := .fields #[.none, .bool false, .ref s.heap.objs.size, rawInt 0, .none, .none] } }) :=
  .of_wp fun prog w A R s h => by
    obtain ⟨hp, g, d, tk, os⟩ := s; obtain ⟨h1, h⟩ := h
    have hsub := sub_enumerate
    have q1 : ∀ {A' : Around} {E : Value → Shared → Prop} {Q : Value → Shared → Prop}, Q (.ref hp.objs.size) ⟨hp.push o, g, d, tk, os⟩ → wpAny (model prog w) A' (pyIter v) Q E ⟨hp, g, d, tk, os⟩ :=
      fun q => B.iter prog w _ _ ⟨hp, g, d, tk, os⟩ _ h1 q
    wp_walk using q1
    refine wpAny_stack_any fun st => wpAny_pure ?_
    split
    · rename_i c _ _ _ _ _
      cases (c == Value.type "enumerate")
      · wp_walk using q1
        exact ⟨_, rfl, h⟩
      · wp_walk using q1
        exact ⟨_, rfl, h⟩
    · wp_walk using q1
      exact ⟨_, rfl, h⟩
theorem call_enum1 {prog : Program} {w : World} {A : Around} {E : Value → Shared → Prop} {s : Shared} {v : Value} {o : Obj} {H : Heap → Prop} {Q : Value → Shared → Prop} (B : Begins v o H) (h1 : H s.heap)
    (h : ∀ h', IsEnum h' (s.heap.objs.size + 1) s.heap.objs.size 0 .none → h'.get? s.heap.objs.size = some o → h'.objs.size = s.heap.objs.size + 2 →
      (∀ b o, s.heap.get? b = some o → h'.get? b = some o) → Q (.ref (s.heap.objs.size + 1)) { s with heap := h' }) :
    wpAny (model prog w) A (call (.type "enumerate") [v]) Q E s := by
  refine callType_new F.called_enumerate (by decide) (F.typeCall_enumerate_1 _) (F.newCall_enumerate_1 _) (fun obj => F.args_object_init_2 obj _) F.entry_enumerate_new
    (meets_enum1 B) ⟨h1, ?_⟩
  have hz : (s.heap.push o).objs.size = s.heap.objs.size + 1 := Heap.size_push ..
  show _ ∧ _
  rw [hz]
  have he : IsEnum ((s.heap.push o).push { cls := .type "enumerate", data := .fields #[.none, .bool false, .ref s.heap.objs.size, rawInt 0, .none, .none] }) (s.heap.objs.size + 1) s.heap.objs.size 0 .none := by
    have := Heap.get?_push_size (s.heap.push o) (o := { cls := .type "enumerate", data := .fields #[.none, .bool false, .ref s.heap.objs.size, rawInt 0, .none, .none] }) rfl
    rw [hz] at this; exact this
  refine ⟨⟨_, he, rfl⟩, h _ he (Heap.get?_push_of_some _ (Heap.get?_push_size _ B.free)) (by rw [Heap.size_push, hz]) fun b o x => Heap.get?_push_of_some _ (Heap.get?_push_of_some _ x)⟩

def IteT (K : PySem.W.Frag) (a : Addr) (m : Nat) : It :=
  ⟨fun i H => ∃ (xs : List V) (x : V), SqT K H a xs ∧ xs.length = m ∧ xs[i]? = some x, fun i H v H' => ∃ T x, v = .ref T ∧ H T = none ∧ H' = upd H T (.tup [.int (i : Nat), x]) ∧ ∀ xs, SqT K H a xs → xs[i]? = some x, fun i H => ∃ xs : List V, SqT K H a xs ∧ xs.length = m ∧ m ≤ i⟩
theorem turn_enumT {P : Program} {w : World} {K : PySem.W.Frag} {elts : List Expr} {kk : Nat} {tpos : Pos} (a e it : Addr) (m : Nat) :
    Turn P w K (.Tuple elts kk tpos) (IteT K a m) [e, it] e (fun i h => (∃ old, IsEnum h e it ((i : Nat) : Int) old) ∧ h.IsTupleIter it a i ∧ e ≠ it ∧ e ≠ a ∧ it ≠ a ∧ i ≤ m) where
  mem := by simp
  obj := fun i h st b hb => by
    obtain ⟨⟨old, he⟩, ⟨o, ho, hc, hd⟩, _⟩ := st
    have e' : b = e ∨ b = it := by simpa using hb
    rcases e' with z | z
    · rw [z]; exact ⟨_, he, fun v q => nomatch q⟩
    · rw [z]; exact ⟨o, ho, fun v q => by rw [hd] at q; cases q⟩
  keep := fun i h h' st k => let ⟨⟨old, he⟩, hi, hne⟩ := st; ⟨⟨old, k e (by simp) _ he⟩, hi.at fun o q => k it (by simp) o q, hne⟩
  item := by
    intro X hP hw hK hc i pins s σ H E I hf st hg
    subst hP hw hK
    obtain ⟨⟨old, he⟩, hit, hne, hea, hia, him⟩ := st
    obtain ⟨xs, x, hq, hxm, hx⟩ := hg
    obtain ⟨its, rv, p, hz⟩ := I.tuple hq
    obtain ⟨u, hu, ru⟩ := rv.get hx
    have hel : e < s.heap.objs.size := Heap.lt_size he
    have hil : it < s.heap.objs.size := by obtain ⟨_, q, _⟩ := hit; exact Heap.lt_size q
    have hlt : i < its.toArray.size := by simpa using (List.getElem?_eq_some_iff.mp hu).1
    refine wpAny_pyNext_enum_itemD (Draws.tuple (show X.A.in1.handled = none from I.ok.hd hc) it a (Ne.symm hia) its.toArray) he ⟨hit, p⟩ hlt hne (by simp [hne, hea]) fun y h' tk hy ho hit' hT hsz hk => ?_
    have ey : y = u := by
      have : its[i]? = some y := by simpa using hy
      rw [hu] at this
      exact (Option.some.inj this).symm
    subst ey
    refine ⟨_, rfl, wpAny_letOwnedTupleGo_enum (s := { s with heap := h', toks := tk + 1 }) ho fun h'' he' sb => ?_⟩
    have hT2 : h''.get? s.heap.objs.size = some { cls := .type "tuple", data := .seq #[.int i tk, y] } := (sb.2 _ (Nat.ne_of_gt hel)).trans hT
    have new : ObjOk X.prog X.w (upd H s.heap.objs.size (.tup [.int (i : Nat), x])) h'' s.heap.objs.size (.tup [.int (i : Nat), x]) :=
      ⟨by show 2 ≤ sizeLine; decide, [.int i tk, y], .cons ⟨_, rfl⟩ (.cons ru .nil), ⟨_, hT2, rfl, _, rfl⟩⟩
    have I1 : L2.Inv X pins σ (upd H s.heap.objs.size (.tup [.int (i : Nat), x])) { s with heap := h'', toks := tk + 1 } :=
      I.turnedNew (ch := [e, it]) (fun b ob hb q => (sb.2 b (fun z => hb (by simp [z]))).trans (hk b ob (fun z => hb (by simp [z])) (fun z => hb (by simp [z])) q)) hf (Nat.le_refl _) new
    refine ⟨.ref s.heap.objs.size, _, I1, rfl, ⟨_, x, rfl, I.hok.fresh (Nat.le_refl _), rfl, fun ys hy => by rw [I.tuple_inj hy hq]; exact hx⟩, ⟨⟨y, ?_⟩, hit'.1.at fun o q => (sb.2 it (Ne.symm hne)).trans q, hne, hea, hia, by have := (List.getElem?_eq_some_iff.mp hx).1; omega⟩, fun b hb => ?_⟩
    · have e1 : ((i + 1 : Nat) : Int) = (i : Int) + 1 := by omega
      rw [e1]; exact he'
    · have hb' : b < s.heap.objs.size := by
        have e' : b = e ∨ b = it := by simpa using hb
        rcases e' with z | z
        · rw [z]; exact hel
        · rw [z]; exact hil
      rw [upd_ne (Nat.ne_of_lt hb')]
      exact (hf b hb).1
  done := by
    intro X hP hw hK hc i pins s σ H E I hf st hg
    subst hP hw hK
    obtain ⟨⟨old, he⟩, hit, hne, hea, hia, him⟩ := st
    obtain ⟨xs, hq, hxm, hx⟩ := hg
    obtain ⟨its, rv, p, hz⟩ := I.tuple hq
    obtain ⟨f0, f1, f2, f3, f4, f5⟩ := hf it (by simp)
    have hl := rv.length
    have ei : i = its.toArray.size := by simp; omega
    refine wpAny_pyNext_enum_endD (Draws.tuple (show X.A.in1.handled = none from I.ok.hd hc) it a (Ne.symm hia) its.toArray) he ⟨by rw [← ei]; exact hit, p⟩ fun h' eb => ⟨rfl, I.turned (t' := s.toks) (fun b o hb q => eb b o hb q) f0 f1 f3 f4 f5⟩
  self := fun A i s Q E st h => let ⟨⟨_, he⟩, _⟩ := st; wpAny_pyIter_enum he h
def iEnumT (K : PySem.W.Frag) (ta : TA) : TI := fun σ H R => ta σ H fun vs H1 => ∃ a xs, vs = [.ref a] ∧ ((SqL K H1 a xs ∧ R (Ite K a) H1) ∨ (SqT K H1 a xs ∧ R (IteT K a xs.length) H1))
theorem pi_enumA {X : Cx} {e : Expr} {ta : TA} {p pos tpos : Pos} {elts : List Expr} {kk : Nat} (hg : Gl X "enumerate") (hm : X.mg "enumerate" = none) (ha : PA X [e] ta) (hs : starEach [e] X.env = [(false, PySem.eval e X.env)]) :
    PI X (.Tuple elts kk tpos) (.Call (.Name "enumerate" p) [e] [] pos) (iEnumT X.K ta) := by
  refine ⟨fun pins s σ H R I h => ?_⟩
  refine PyProof.Rows.Call_ (ld_blt I hg hm PyProof.Rows.boot_enumerate (PyProof.Rows.callWith_type1 (thn (ha.run pos pins s σ H _ I h) fun us s1 ⟨vs, H1, I1, r1, q1⟩ => ?_) hs rfl))
  obtain ⟨a, xs, ex, q⟩ := q1
  subst ex
  cases r1 with
  | cons r rr =>
    cases rr
    cases r
    have hle : ∀ b, b = s1.heap.objs.size + 1 ∨ b = s1.heap.objs.size → s1.heap.objs.size ≤ b := fun b hb => by
      rcases hb with z | z
      · rw [z]; exact Nat.le_add_right _ _
      · rw [z]; exact Nat.le_refl _
    rcases q with ⟨hq, q⟩ | ⟨hq, q⟩
    · obtain ⟨its, rv, p', hz⟩ := I1.list hq
      refine call_enumerate_list p'.isList fun h' he hit hsz hk => wpAny_pyIter_enum he ?_
      have I2 : L2.Inv X pins σ H1 { s1 with heap := h' } := I1.kept (t' := s1.toks) hk
      refine ⟨s1.heap.objs.size + 1, [s1.heap.objs.size + 1, s1.heap.objs.size], _, _, H1, rfl, I2, turn_enum a (s1.heap.objs.size + 1) s1.heap.objs.size, ⟨⟨.none, he⟩, hit, Nat.succ_ne_self _⟩, fun b hb => ?_, q⟩
      have e' : b = s1.heap.objs.size + 1 ∨ b = s1.heap.objs.size := by simpa using hb
      exact I1.fpOk (hle b e') (I1.hok.fresh (hle b e'))
    · obtain ⟨its, rv, p', hz⟩ := I1.tuple hq
      have hal : a < s1.heap.objs.size := p'.lt
      refine call_enum1 (begins_tuple a its.toArray) p' fun h' he hit hsz hk => wpAny_pyIter_enum he ?_
      have I2 : L2.Inv X pins σ H1 { s1 with heap := h' } := I1.kept (t' := s1.toks) hk
      refine ⟨s1.heap.objs.size + 1, [s1.heap.objs.size + 1, s1.heap.objs.size], _, _, H1, rfl, I2, turn_enumT a (s1.heap.objs.size + 1) s1.heap.objs.size xs.length, ⟨⟨.none, he⟩, ⟨_, hit, rfl, rfl⟩, Nat.succ_ne_self _, Nat.ne_of_gt (Nat.lt_succ_of_lt hal), Nat.ne_of_gt hal, Nat.zero_le _⟩, fun b hb => ?_, q⟩
      have e' : b = s1.heap.objs.size + 1 ∨ b = s1.heap.objs.size := by simpa using hb
      exact I1.fpOk (hle b e') (I1.hok.fresh (hle b e'))
theorem walk_enumT {K : PySem.W.Frag} {a : Addr} {xs : List V} : Walk (IteT K a xs.length) xs.length (fun H => SqT K H a xs) (YPair (fun i => some (.int (i : Nat))) (fun i => xs[i]?)) where
  goes := fun i H hi h => ⟨xs, xs[i], h, rfl, by simp [hi]⟩
  stops := fun H h => ⟨xs, h, rfl, Nat.le_refl _⟩
  yields := fun i H x H' hi h ⟨T, y, e1, e2, e3, e4⟩ => ⟨T, _, y, e1, e2, e3, rfl, e4 xs h⟩
theorem walk_zipT {K : PySem.W.Frag} {a b : Addr} {xs ys : List V} {n : Nat} (hn : n = min xs.length ys.length) : Walk (RZ.ItzT K a b) n (fun H => SqT K H a xs ∧ SqT K H b ys) (YPair (fun i => xs[i]?) (fun i => ys[i]?)) where
  goes := fun i H hi h => ⟨xs, ys, xs[i]'(by omega), ys[i]'(by omega), h.1, h.2, by simp, by simp⟩
  stops := fun H h => ⟨xs, ys, h.1, h.2, by omega⟩
  yields := fun i H x H' hi h ⟨T, x', y', e1, e2, e3, e4, e5⟩ => ⟨T, x', y', e1, e2, e3, e4 xs h.1, e5 ys h.2⟩

/-! ### what is walked -/
section
variable (N : Nm) (w : World) (K : PySem.W.Frag)
/-- what a turn gives: data that stands, or a new tuple -/
def YD (G : Hp) (d : D) (H1 : Hp) (x : V) (H2 : Hp) : Prop := (H2 = H1 ∧ Rep N w K G x d) ∨ ∃ T vs ds, x = .ref T ∧ d = .tup ds ∧ H1 T = none ∧ H2 = upd H1 T (.tup vs) ∧ Reps N w K G vs ds
def WalkO (P : Hp → Prop) (G : Hp) (J : It) (its : List D) : Prop := ∃ Y, Walk J its.length P Y ∧ ∀ i H1 x H2, P H1 → i < its.length → Y i H1 x H2 → ∃ d, its[i]? = some d ∧ YD N w K G d H1 x H2
end
section
variable {N : Nm} {w : World} {K : PySem.W.Frag} {P : Hp → Prop} {G : Hp} {as : List Addr} {H : Hp}
theorem yd_pair {xs ys : Nat → Option V} {us vs : List D} (h : ∀ i x y, xs i = some x → ys i = some y → ∃ dx dy, (List.zipWith (fun x y => D.tup [x, y]) us vs)[i]? = some (.tup [dx, dy]) ∧ Rep N w K G x dx ∧ Rep N w K G y dy) :
    ∀ i H1 x H2, P H1 → i < (List.zipWith (fun x y => D.tup [x, y]) us vs).length → YPair xs ys i H1 x H2 → ∃ d, (List.zipWith (fun x y => D.tup [x, y]) us vs)[i]? = some d ∧ YD N w K G d H1 x H2 := by
  intro i H1 x H2 _ _ ⟨T, x', y', e1, e2, e3, e4, e5⟩
  obtain ⟨dx, dy, e6, r1, r2⟩ := h i x' y' e4 e5
  exact ⟨_, e6, .inr ⟨T, _, _, e1, rfl, e2, e3, .cons r1 (.cons r2 .nil)⟩⟩
theorem walkO_lst {a : Addr} {vs : List V} {xs : List D} (hP : ∀ H1, P H1 → SqL K H1 a vs) (r : Reps N w K G vs xs) : WalkO N w K P G (Itl K a) xs := by
  refine ⟨YAt vs, ?_, fun i H1 x H2 _ _ ⟨e1, e2⟩ => ?_⟩
  · rw [← r.length]
    exact walk_list.mono hP fun _ _ _ _ _ _ y => y
  · obtain ⟨d, h1, h2⟩ := r.get e2
    exact ⟨d, h1, .inl ⟨e1, h2⟩⟩
theorem walkO_tup {a : Addr} {vs : List V} {xs : List D} (hP : ∀ H1, P H1 → SqT K H1 a vs) (r : Reps N w K G vs xs) : WalkO N w K P G (Itt K a) xs := by
  refine ⟨YAt vs, ?_, fun i H1 x H2 _ _ ⟨e1, e2⟩ => ?_⟩
  · rw [← r.length]
    exact walk_tup.mono hP fun _ _ _ _ _ _ y => y
  · obtain ⟨d, h1, h2⟩ := r.get e2
    exact ⟨d, h1, .inl ⟨e1, h2⟩⟩
theorem walkO_range (lo : Int) (n : Nat) : WalkO N w K P G (Itr lo n) ((List.range n).map fun (k : Nat) => .int (lo + k)) := by
  refine ⟨YFn fun i => .int (lo + i), ?_, fun i H1 x H2 _ hi ⟨e1, e2⟩ => ?_⟩
  · rw [List.length_map, List.length_range]
    exact walk_range.mono (fun _ _ => trivial) fun _ _ _ _ _ _ y => y
  · rw [List.length_map, List.length_range] at hi
    subst e2
    refine ⟨.int (lo + i), by simp [hi], .inl ⟨e1, .int _⟩⟩
theorem walkO_enum {J : It} {vs : List V} {xs : List D} (hw : Walk J vs.length P (YPair (fun i => some (.int (i : Nat))) (fun i => vs[i]?))) (r : Reps N w K G vs xs) : WalkO N w K P G J (xs.mapIdx fun i x => .tup [.int i, x]) := by
  refine ⟨YPair (fun i => some (.int (i : Nat))) (fun i => vs[i]?), by rw [List.length_mapIdx, ← r.length]; exact hw, fun i H1 x H2 _ hi ⟨T, x', y', e1, e2, e3, e4, e5⟩ => ?_⟩
  obtain ⟨d, h1, h2⟩ := r.get e5
  cases e4
  refine ⟨.tup [.int i, d], by rw [List.getElem?_mapIdx, h1]; rfl, .inr ⟨T, _, _, e1, rfl, e2, e3, .cons (.int _) (.cons h2 .nil)⟩⟩
theorem walkO_zip {J : It} {vs us : List V} {xs ys : List D} (hw : Walk J (min vs.length us.length) P (YPair (fun i => vs[i]?) (fun i => us[i]?))) (r : Reps N w K G vs xs) (q : Reps N w K G us ys) : WalkO N w K P G J (List.zipWith (fun x y => .tup [x, y]) xs ys) := by
  refine ⟨YPair (fun i => vs[i]?) (fun i => us[i]?), by rw [List.length_zipWith, ← r.length, ← q.length]; exact hw, yd_pair fun i x y ex ey => ?_⟩
  obtain ⟨dx, h1, h2⟩ := r.get ex
  obtain ⟨dy, h3, h4⟩ := q.get ey
  exact ⟨dx, dy, by rw [List.getElem?_zipWith, h1, h3], h2, h4⟩
end
end Fm
end

/-! ## part LM -/
section
set_option maxHeartbeats 4000000
namespace Fm
open PySem PySem.Spec L2

theorem PI.imp {X : Cx} {tg it : Expr} {t t' : TI} (h : PI X tg it t) (i : ∀ σ H R, t' σ H R → t σ H R) : PI X tg it t' := ⟨fun pins s σ H R I q => h.run pins s σ H R I (i σ H R q)⟩
theorem PI.or {X : Cx} {tg it : Expr} {t t' : TI} (h : PI X tg it t) (h' : PI X tg it t') : PI X tg it (fun σ H R => t σ H R ∨ t' σ H R) := ⟨fun pins s σ H R I q => by
  rcases q with q | q
  · exact h.run pins s σ H R I q
  · exact h'.run pins s σ H R I q⟩

section
variable (N : Nm) (w : World) (K : PySem.W.Frag)
/-- the value stands for d wherever P holds -/
def SeqOk (P : Hp → Prop) (G : Hp) (x : V) : D → Prop
  | .lst xs => ∃ a vs, x = .ref a ∧ (∀ H1, P H1 → H1 a = some (.lst vs)) ∧ Reps N w K G vs xs
  | .tup xs => ∃ a vs, x = .ref a ∧ (∀ H1, P H1 → SqT K H1 a vs) ∧ Reps N w K G vs xs
  | .int i => x = .int i
  | _ => True
/-- where a comprehension's walk stands -/
abbrev PC (as : List Addr) (G H : Hp) : Hp → Prop := fun H1 => ∃ G1 as1, Stp as G H as1 G1 H1 ∧ Sub G1 H1
end
section
variable {N : Nm} {w : World} {K : PySem.W.Frag} {as : List Addr} {G H : Hp} {M : Mem}
theorem seqOk_c {x : V} {d : D} (r : RP N w K G as H x d) (f : Wf N w K G H as M) : SeqOk N w K (PC as G H) G x d := by
  cases d with
  | lst xs =>
    rcases r with r | ⟨a, rfl, ⟨vs, h1, h2⟩, h3⟩
    · cases r with | lst h1 h2 => exact ⟨_, _, rfl, fun H1 ⟨G1, as1, s, sb⟩ => sb _ _ (s.ext _ _ h1), h2⟩
    · exact ⟨a, vs, rfl, fun H1 ⟨G1, as1, s, sb⟩ => s.keep a _ h1 h3, h2⟩
  | tup xs =>
    obtain ⟨a, vs, rfl, h1, h2⟩ := r.tup.tup_inv
    exact ⟨a, vs, rfl, fun H1 ⟨G1, as1, s, sb⟩ => SqT.sub h1 (s.ext.trans sb), h2⟩
  | int i => exact r.int
  | _ => trivial
theorem seqOk_s {x : V} {d : D} (r : Rep N w K G x d) : SeqOk N w K (fun H1 => Sub G H1) G x d := by
  cases d with
  | lst xs => cases r with | lst h1 h2 => exact ⟨_, _, rfl, fun H1 s => s _ _ h1, h2⟩
  | tup xs =>
    obtain ⟨a, vs, rfl, h1, h2⟩ := r.tup_inv
    exact ⟨a, vs, rfl, fun H1 s => SqT.sub h1 s, h2⟩
  | int i => cases r; rfl
  | _ => trivial
end

def notSetI : Expr → Bool
  | .Set .. => false
  | _ => true
theorem folded_of {e : Expr} {env : PySem.Env} (h : notSetI e = true) : ∀ x, foldedSetIterable e env x = pure x := by
  intro x
  cases e <;> first | rfl | cases h

section
variable (N : Nm) (T : Tab) (call : CallF) (W : WX) (X : Cx)
/-- the walk of a comprehension -/
def tIC (k : Ik) (args : List E) : TI := fun σ H R => ∃ ρ M G as He, EnvOk N X.w X.K G as He H σ ρ ∧ Wf N X.w X.K G H as M ∧
  Good N X.w X.K W σ as G H ((evalPs T call args ρ M).bind fun xs M => Res.of (turns k xs) M) fun its _ G' as' H' => ∀ J, WalkO N X.w X.K (PC as' G' H') G' J its → R J H'
/-- the walk of a for -/
def tIS (k : Ik) (args : List E) : TI := fun σ H R => ∃ ρ M G as He, EnvOk N X.w X.K G as He H σ ρ ∧ Wf N X.w X.K G H as M ∧
  Good N X.w X.K W σ as G H ((evalDs T call args ρ M).bind fun xs M => Res.of (turns k xs) M) fun its _ G' as' H' => ∀ J, WalkO N X.w X.K (fun H1 => Sub G' H1) G' J its → R J H'
end
section
variable {N : Nm} {T : Tab} {call : CallF} {W : WX} {X : Cx} {pos : Pos}
theorem Good.ofR {α : Type} {w : World} {K : PySem.W.Frag} {σ : St} {as : List Addr} {G H : Hp} {o : Option α} {M : Mem} {Q : α → Mem → Hp → List Addr → Hp → Prop} (h : Good N w K W σ as G H (Res.of o M) Q) : ∃ a, o = some a ∧ Good N w K W σ as G H (.ok a M) Q := by
  cases o with
  | none => exact h.elim
  | some a => exact ⟨a, rfl, h⟩

/-! ### the kinds of walks -/
def iSeq (K : PySem.W.Frag) (tl : TE) : TI := fun σ H R => tl σ H fun x H1 => ∃ a, x = .ref a ∧ (((∃ xs, SqL K H1 a xs) ∧ R (Itl K a) H1) ∨ ((∃ xs, SqT K H1 a xs) ∧ R (Itt K a) H1))
theorem pi_seq {tg l : Expr} {tl : TE} (hl : PE X l tl) : PI X tg l (iSeq X.K tl) := by
  refine ⟨fun pins s σ H R I h => ?_⟩
  refine thn (hl.run pins s σ H _ I h) fun v s1 ⟨x, H1, I1, r1, q1⟩ => ?_
  obtain ⟨a, e, q1⟩ := q1
  subst e
  cases r1
  rcases q1 with ⟨⟨xs, hq⟩, q⟩ | ⟨⟨xs, hq⟩, q⟩
  · obtain ⟨its, rv, p, hz⟩ := I1.list hq
    refine wpAny_pyIter_list p.isList ?_
    refine ⟨s1.heap.objs.size, [s1.heap.objs.size], _, _, H1, rfl, I1.kept (t' := s1.toks) fun b o e => Heap.get?_push_of_some _ e, turn_list a _, ⟨_, Heap.get?_push_size _ rfl, rfl, rfl⟩, fun b hb => ?_, q⟩
    have e : b = s1.heap.objs.size := by simpa using hb
    subst e
    exact I1.fpOk (Nat.le_refl _) (I1.hok.fresh (Nat.le_refl _))
  · obtain ⟨its, rv, p, hz⟩ := I1.tuple hq
    refine wpAny_pyIter_tuple (show s1.heap.IsTuple a its.toArray from p) ?_
    refine ⟨s1.heap.objs.size, [s1.heap.objs.size], _, _, H1, rfl, I1.kept (t' := s1.toks) fun b o e => Heap.get?_push_of_some _ e, turn_tuple a _, ⟨_, Heap.get?_push_size _ rfl, rfl, rfl⟩, fun b hb => ?_, q⟩
    have e : b = s1.heap.objs.size := by simpa using hb
    subst e
    exact I1.fpOk (Nat.le_refl _) (I1.hok.fresh (Nat.le_refl _))
section
variable {w : World} {K : PySem.W.Frag} {P : Hp → Prop} {G H1 : Hp} {R : It → Hp → Prop} {its : List D}
theorem core_seq {x : V} {d : D} (s : SeqOk N w K P G x d) (p : P H1) (t : turnsSeq [d] = some its) (r : ∀ J, WalkO N w K P G J its → R J H1) :
    ∃ a, x = .ref a ∧ (((∃ xs, SqL K H1 a xs) ∧ R (Itl K a) H1) ∨ ((∃ xs, SqT K H1 a xs) ∧ R (Itt K a) H1)) := by
  cases d with
  | lst xs =>
    cases t
    obtain ⟨a, vs, rfl, h1, h2⟩ := s
    exact ⟨a, rfl, .inl ⟨⟨vs, SqL.of (h1 _ p)⟩, r _ (walkO_lst (fun H q => SqL.of (h1 H q)) h2)⟩⟩
  | tup xs =>
    cases t
    obtain ⟨a, vs, rfl, h1, h2⟩ := s
    exact ⟨a, rfl, .inr ⟨⟨vs, h1 _ p⟩, r _ (walkO_tup h1 h2)⟩⟩
  | _ => cases t
theorem core_r1 {x : V} {d : D} (s : SeqOk N w K P G x d) (t : turnsR1 [d] = some its) (r : ∀ J, WalkO N w K P G J its → R J H1) :
    ∃ j : Int, [x] = [V.int j] ∧ -(2 ^ 62) ≤ j ∧ j < 2 ^ 62 ∧ R (Itr 0 j.toNat) H1 := by
  cases d with
  | int j =>
    rw [turnsR1] at t
    split at t
    · rename_i h
      cases t
      obtain rfl : x = .int j := s
      refine ⟨j, rfl, h.1, h.2, r _ ?_⟩
      have z := walkO_range (N := N) (w := w) (K := K) (P := P) (G := G) 0 j.toNat
      simpa using z
    · cases t
  | _ => cases t
theorem core_r2 {x y : V} {d e : D} (s : SeqOk N w K P G x d) (s' : SeqOk N w K P G y e) (t : turnsR2 [d, e] = some its) (r : ∀ J, WalkO N w K P G J its → R J H1) :
    ∃ i j : Int, [x, y] = [V.int i, V.int j] ∧ (-(2 ^ 62) ≤ i ∧ i < 2 ^ 62 ∧ -(2 ^ 62) ≤ j ∧ j < 2 ^ 62) ∧ R (Itr i (j - i).toNat) H1 := by
  cases d with
  | int i =>
    cases e with
    | int j =>
      rw [turnsR2] at t
      split at t
      · rename_i h
        cases t
        obtain rfl : x = .int i := s
        obtain rfl : y = .int j := s'
        exact ⟨i, j, rfl, h, r _ (walkO_range i (j - i).toNat)⟩
      · cases t
    | _ => cases t
  | _ => cases t
theorem core_enum {x : V} {d : D} (s : SeqOk N w K P G x d) (p : P H1) (t : turnsEnum [d] = some its) (r : ∀ J, WalkO N w K P G J its → R J H1) :
    ∃ a xs, [x] = [V.ref a] ∧ ((SqL K H1 a xs ∧ R (Ite K a) H1) ∨ (SqT K H1 a xs ∧ R (IteT K a xs.length) H1)) := by
  cases d with
  | lst xs =>
    cases t
    obtain ⟨a, vs, rfl, h1, h2⟩ := s
    exact ⟨a, vs, rfl, .inl ⟨SqL.of (h1 _ p), r _ (walkO_enum (walk_enum.mono (fun H q => SqL.of (h1 H q)) fun _ _ _ _ _ _ y => y) h2)⟩⟩
  | tup xs =>
    cases t
    obtain ⟨a, vs, rfl, h1, h2⟩ := s
    exact ⟨a, vs, rfl, .inr ⟨h1 _ p, r _ (walkO_enum (walk_enumT.mono h1 fun _ _ _ _ _ _ y => y) h2)⟩⟩
  | _ => cases t
theorem core_zip {x y : V} {d e : D} (s : SeqOk N w K P G x d) (s' : SeqOk N w K P G y e) (p : P H1) (t : turnsZip [d, e] = some its) (r : ∀ J, WalkO N w K P G J its → R J H1) :
    ∃ a b xs ys, [x, y] = [V.ref a, V.ref b] ∧ ((SqL K H1 a xs ∧ SqL K H1 b ys ∧ R (Itz K a b) H1) ∨ (SqT K H1 a xs ∧ SqT K H1 b ys ∧ R (RZ.ItzT K a b) H1)) := by
  cases d with
  | lst xs =>
    cases e with
    | lst ys =>
      cases t
      obtain ⟨a, vs, rfl, h1, h2⟩ := s
      obtain ⟨b, us, rfl, h3, h4⟩ := s'
      exact ⟨a, b, vs, us, rfl, .inl ⟨SqL.of (h1 _ p), SqL.of (h3 _ p), r _ (walkO_zip ((walk_zip rfl).mono (fun H q => ⟨SqL.of (h1 H q), SqL.of (h3 H q)⟩) fun _ _ _ _ _ _ y => y) h2 h4)⟩⟩
    | _ => cases t
  | tup xs =>
    cases e with
    | tup ys =>
      cases t
      obtain ⟨a, vs, rfl, h1, h2⟩ := s
      obtain ⟨b, us, rfl, h3, h4⟩ := s'
      exact ⟨a, b, vs, us, rfl, .inr ⟨h1 _ p, h3 _ p, r _ (walkO_zip ((walk_zipT rfl).mono (fun H q => ⟨h1 H q, h3 H q⟩) fun _ _ _ _ _ _ y => y) h2 h4)⟩⟩
    | _ => cases t
  | _ => cases t
end

/-! ### in a comprehension -/
theorem evalPs_one (e : E) (ρ : Env) (M : Mem) : evalPs T call [e] ρ M = (eval T call e ρ M).bind fun v M => (Res.of v.peek M).bind fun x M => .ok [x] M := by
  rw [evalPs]
  congr 1
theorem evalDs_one (e : E) (ρ : Env) (M : Mem) : evalDs T call [e] ρ M = (eval T call e ρ M).bind fun v M => (Res.of v.toD M).bind fun x M => .ok [x] M := by
  rw [evalDs]
  congr 1
theorem Res.bind_assoc {α β γ : Type} (r : Res α) (f : α → Mem → Res β) (g : β → Mem → Res γ) : (r.bind f).bind g = r.bind fun a M => (f a M).bind g := by
  cases r <;> rfl
theorem pc_here {as : List Addr} {G H : Hp} {M : Mem} {w : World} {K : PySem.W.Frag} (f : Wf N w K G H as M) : PC as G H H := ⟨G, as, Stp.refl, f.sub⟩
theorem sic_seq {tg pe : Expr} {e : E} (h : PE X pe (tE N T call W X e)) : PI X tg pe (tIC N T call W X .seq [e]) := by
  refine PI.imp (pi_seq h) fun σ H R ⟨ρ, M, G, as, He, en, wf, h⟩ => ?_
  rw [evalPs_one, Res.bind_assoc] at h
  refine ⟨ρ, M, G, as, He, en, wf, h.bind fun v M1 H1 G1 as1 e1 s1 w1 h x vr => ?_⟩
  rw [Res.bind_assoc] at h
  obtain ⟨d, ed, h⟩ := h.of
  obtain ⟨its, et, h⟩ := Good.ofR (show Good _ _ _ _ _ _ _ _ (Res.of (turns .seq [d]) M1) _ from h)
  exact core_seq (seqOk_c (vr.peek ed) w1) (pc_here w1) et (h H1 G1 as1 s1 w1)
theorem sis_seq {tg pe : Expr} {e : E} (h : PE X pe (tE N T call W X e)) : PI X tg pe (tIS N T call W X .seq [e]) := by
  refine PI.imp (pi_seq h) fun σ H R ⟨ρ, M, G, as, He, en, wf, h⟩ => ?_
  rw [evalDs_one, Res.bind_assoc] at h
  refine ⟨ρ, M, G, as, He, en, wf, h.bind fun v M1 H1 G1 as1 e1 s1 w1 h x vr => ?_⟩
  rw [Res.bind_assoc] at h
  obtain ⟨d, ed, h⟩ := h.of
  obtain ⟨its, et, h⟩ := Good.ofR (show Good _ _ _ _ _ _ _ _ (Res.of (turns .seq [d]) M1) _ from h)
  obtain ⟨G2, s2, w2, r⟩ := vr.toD ed w1 s1
  exact core_seq (seqOk_s r) w2.sub et (h H1 G2 as1 s2 w2)
theorem paired_two {α β : Type} {F : α → β → Prop} {xs : List α} {d e : β} (h : Paired F xs [d, e]) : ∃ x y, xs = [x, y] ∧ F x d ∧ F y e := by
  cases h with
  | cons h1 h2 =>
    cases h2 with
    | cons h3 h4 => cases h4; exact ⟨_, _, rfl, h1, h3⟩
theorem reps_two {w : World} {K : PySem.W.Frag} {G : Hp} {xs : List V} {d e : D} (h : Reps N w K G xs [d, e]) : ∃ x y, xs = [x, y] ∧ Rep N w K G x d ∧ Rep N w K G y e := by
  cases h with
  | cons h1 h2 =>
    cases h2 with
    | cons h3 h4 => cases h4; exact ⟨_, _, rfl, h1, h3⟩
theorem reps_one {w : World} {K : PySem.W.Frag} {G : Hp} {xs : List V} {d : D} (h : Reps N w K G xs [d]) : ∃ x, xs = [x] ∧ Rep N w K G x d := by
  cases h with
  | cons h1 h2 => cases h2; exact ⟨_, rfl, h1⟩
theorem turnsR1_one {xs its : List D} (h : turnsR1 xs = some its) : ∃ d, xs = [d] := by
  unfold turnsR1 at h
  split at h
  · exact ⟨_, rfl⟩
  · cases h
theorem turnsR2_two {xs its : List D} (h : turnsR2 xs = some its) : ∃ d e, xs = [d, e] := by
  unfold turnsR2 at h
  split at h
  · exact ⟨_, _, rfl⟩
  · cases h
theorem turnsZip_two {xs its : List D} (h : turnsZip xs = some its) : ∃ d e, xs = [d, e] := by
  unfold turnsZip at h
  split at h
  · exact ⟨_, _, rfl⟩
  · exact ⟨_, _, rfl⟩
  · cases h
theorem turnsEnum_one {xs its : List D} (h : turnsEnum xs = some its) : ∃ d, xs = [d] := by
  unfold turnsEnum at h
  split at h
  · exact ⟨_, rfl⟩
  · exact ⟨_, rfl⟩
  · cases h
theorem sic_range1 {tg pa : Expr} {p : Pos} {es : List E} (hg : Gl X "range") (hm : X.mg "range" = none) (hs : notStar pa = true) (h : PA X [pa] (tPs N T call W X es)) : PI X tg (.Call (.Name "range" p) [pa] [] pos) (tIC N T call W X .range1 es) := by
  refine PI.imp (pi_range1 hg hm h (starEach_of hs)) fun σ H R ⟨ρ, M, G, as, He, en, wf, h⟩ => ?_
  refine ⟨ρ, M, G, as, He, en, wf, h.bind fun xs M1 H1 G1 as1 e1 s1 w1 h vs rs => ?_⟩
  obtain ⟨its, et, h2⟩ := h.ofR
  obtain ⟨d, rfl⟩ := turnsR1_one et
  obtain ⟨x, rfl, rx⟩ := paired1 rs
  exact core_r1 (seqOk_c rx w1) et (h2 H1 G1 as1 s1 w1)
theorem sis_range1 {tg pa : Expr} {p : Pos} {es : List E} (hg : Gl X "range") (hm : X.mg "range" = none) (hs : notStar pa = true) (h : PA X [pa] (tDs N T call W X es)) : PI X tg (.Call (.Name "range" p) [pa] [] pos) (tIS N T call W X .range1 es) := by
  refine PI.imp (pi_range1 hg hm h (starEach_of hs)) fun σ H R ⟨ρ, M, G, as, He, en, wf, h⟩ => ?_
  refine ⟨ρ, M, G, as, He, en, wf, h.bind fun xs M1 H1 G1 as1 e1 s1 w1 h vs rs => ?_⟩
  obtain ⟨its, et, h2⟩ := h.ofR
  obtain ⟨d, rfl⟩ := turnsR1_one et
  obtain ⟨x, rfl, rx⟩ := reps_one rs
  exact core_r1 (seqOk_s rx) et (h2 H1 G1 as1 s1 w1)
theorem star2 {pa pb : Expr} {env : PySem.Env} (h1 : notStar pa = true) (h2 : notStar pb = true) : starEach [pa, pb] env = [(false, PySem.eval pa env), (false, PySem.eval pb env)] := by
  rw [starEach_of h1, starEach_of h2]
  rfl
theorem sic_range2 {tg pa pb : Expr} {p : Pos} {es : List E} (hg : Gl X "range") (hm : X.mg "range" = none) (hs : notStar pa = true) (hs2 : notStar pb = true) (h : PA X [pa, pb] (tPs N T call W X es)) : PI X tg (.Call (.Name "range" p) [pa, pb] [] pos) (tIC N T call W X .range2 es) := by
  refine PI.imp (pi_range2 hg hm h (star2 hs hs2) (starEach_of hs2)) fun σ H R ⟨ρ, M, G, as, He, en, wf, h⟩ => ?_
  refine ⟨ρ, M, G, as, He, en, wf, h.bind fun xs M1 H1 G1 as1 e1 s1 w1 h vs rs => ?_⟩
  obtain ⟨its, et, h2⟩ := h.ofR
  obtain ⟨d, e, rfl⟩ := turnsR2_two et
  obtain ⟨x, y, rfl, rx, ry⟩ := paired_two rs
  exact core_r2 (seqOk_c rx w1) (seqOk_c ry w1) et (h2 H1 G1 as1 s1 w1)
theorem sis_range2 {tg pa pb : Expr} {p : Pos} {es : List E} (hg : Gl X "range") (hm : X.mg "range" = none) (hs : notStar pa = true) (hs2 : notStar pb = true) (h : PA X [pa, pb] (tDs N T call W X es)) : PI X tg (.Call (.Name "range" p) [pa, pb] [] pos) (tIS N T call W X .range2 es) := by
  refine PI.imp (pi_range2 hg hm h (star2 hs hs2) (starEach_of hs2)) fun σ H R ⟨ρ, M, G, as, He, en, wf, h⟩ => ?_
  refine ⟨ρ, M, G, as, He, en, wf, h.bind fun xs M1 H1 G1 as1 e1 s1 w1 h vs rs => ?_⟩
  obtain ⟨its, et, h2⟩ := h.ofR
  obtain ⟨d, e, rfl⟩ := turnsR2_two et
  obtain ⟨x, y, rfl, rx, ry⟩ := reps_two rs
  exact core_r2 (seqOk_s rx) (seqOk_s ry) et (h2 H1 G1 as1 s1 w1)
theorem sic_enum {elts : List Expr} {kk : Nat} {tpos p : Pos} {pa : Expr} {es : List E} (hg : Gl X "enumerate") (hm : X.mg "enumerate" = none) (hs : notStar pa = true) (h : PA X [pa] (tPs N T call W X es)) : PI X (.Tuple elts kk tpos) (.Call (.Name "enumerate" p) [pa] [] pos) (tIC N T call W X .enum es) := by
  refine PI.imp (pi_enumA hg hm h (starEach_of hs)) fun σ H R ⟨ρ, M, G, as, He, en, wf, h⟩ => ?_
  refine ⟨ρ, M, G, as, He, en, wf, h.bind fun xs M1 H1 G1 as1 e1 s1 w1 h vs rs => ?_⟩
  obtain ⟨its, et, h2⟩ := h.ofR
  obtain ⟨d, rfl⟩ := turnsEnum_one et
  obtain ⟨x, rfl, rx⟩ := paired1 rs
  exact core_enum (seqOk_c rx w1) (pc_here w1) et (h2 H1 G1 as1 s1 w1)
theorem sis_enum {elts : List Expr} {kk : Nat} {tpos p : Pos} {pa : Expr} {es : List E} (hg : Gl X "enumerate") (hm : X.mg "enumerate" = none) (hs : notStar pa = true) (h : PA X [pa] (tDs N T call W X es)) : PI X (.Tuple elts kk tpos) (.Call (.Name "enumerate" p) [pa] [] pos) (tIS N T call W X .enum es) := by
  refine PI.imp (pi_enumA hg hm h (starEach_of hs)) fun σ H R ⟨ρ, M, G, as, He, en, wf, h⟩ => ?_
  refine ⟨ρ, M, G, as, He, en, wf, h.bind fun xs M1 H1 G1 as1 e1 s1 w1 h vs rs => ?_⟩
  obtain ⟨its, et, h2⟩ := h.ofR
  obtain ⟨d, rfl⟩ := turnsEnum_one et
  obtain ⟨x, rfl, rx⟩ := reps_one rs
  exact core_enum (seqOk_s rx) w1.sub et (h2 H1 G1 as1 s1 w1)
theorem sic_zip {elts : List Expr} {kk : Nat} {tpos p : Pos} {pa pb : Expr} {es : List E} (hg : Gl X "zip") (hm : X.mg "zip" = none) (hs : notStar pa = true) (hs2 : notStar pb = true) (h : PA X [pa, pb] (tPs N T call W X es)) : PI X (.Tuple elts kk tpos) (.Call (.Name "zip" p) [pa, pb] [] pos) (tIC N T call W X .zip es) := by
  refine PI.imp (RZ.pi_zipA hg hm h (starEach_of hs) (back_of (by simp [hs2]))) fun σ H R ⟨ρ, M, G, as, He, en, wf, h⟩ => ?_
  refine ⟨ρ, M, G, as, He, en, wf, h.bind fun xs M1 H1 G1 as1 e1 s1 w1 h vs rs => ?_⟩
  obtain ⟨its, et, h2⟩ := h.ofR
  obtain ⟨d, e, rfl⟩ := turnsZip_two et
  obtain ⟨x, y, rfl, rx, ry⟩ := paired_two rs
  exact core_zip (seqOk_c rx w1) (seqOk_c ry w1) (pc_here w1) et (h2 H1 G1 as1 s1 w1)
theorem sis_zip {elts : List Expr} {kk : Nat} {tpos p : Pos} {pa pb : Expr} {es : List E} (hg : Gl X "zip") (hm : X.mg "zip" = none) (hs : notStar pa = true) (hs2 : notStar pb = true) (h : PA X [pa, pb] (tDs N T call W X es)) : PI X (.Tuple elts kk tpos) (.Call (.Name "zip" p) [pa, pb] [] pos) (tIS N T call W X .zip es) := by
  refine PI.imp (RZ.pi_zipA hg hm h (starEach_of hs) (back_of (by simp [hs2]))) fun σ H R ⟨ρ, M, G, as, He, en, wf, h⟩ => ?_
  refine ⟨ρ, M, G, as, He, en, wf, h.bind fun xs M1 H1 G1 as1 e1 s1 w1 h vs rs => ?_⟩
  obtain ⟨its, et, h2⟩ := h.ofR
  obtain ⟨d, e, rfl⟩ := turnsZip_two et
  obtain ⟨x, y, rfl, rx, ry⟩ := reps_two rs
  exact core_zip (seqOk_s rx) (seqOk_s ry) w1.sub et (h2 H1 G1 as1 s1 w1)
end
end Fm
end

/-! ## part LN -/
section
set_option maxHeartbeats 4000000
namespace Fm
open PySem PySem.Spec L2

/-! ### slots -/
section
variable {N : Nm} {w : World} {K : PySem.W.Frag} {as as1 : List Addr} {G G1 H H1 He : Hp} {σ : St} {ρ : Env} {M : Mem}
theorem EnvOk.setR (h : EnvOk N w K G as He H σ ρ) (i : Nat) {v : V} {x : Val} (r : Stv N w K G as v x) : EnvOk N w K G as He H (σ.set i (some v)) (ρ.set i (some x)) where
  len := by rw [List.length_set, List.length_set]; exact h.len
  val := fun j y e => by
    by_cases hj : i = j
    · subst hj
      have hl : i < ρ.length := by
        have := (List.getElem?_eq_some_iff.mp e).1
        rwa [List.length_set] at this
      rw [List.getElem?_set_self hl] at e
      cases e
      refine ⟨v, by rw [List.getElem?_set_self (by rw [h.len]; exact hl)], ?_⟩
      cases x with
      | d x => exact r
      | r n => exact r
      | o x => exact r.elim
      | b x => exact r.elim
    · rw [List.getElem?_set_ne hj] at e ⊢
      exact h.val j y e
  dis := fun j k x y a e1 e2 e3 e4 => by
    by_cases hj : i = j
    · subst hj
      have hl : i < ρ.length := by
        have := (List.getElem?_eq_some_iff.mp e1).1
        rwa [List.length_set] at this
      rw [List.getElem?_set_self hl] at e1
      cases e1
      exact r.elim
    · by_cases hk : i = k
      · subst hk
        have hl : i < ρ.length := by
          have := (List.getElem?_eq_some_iff.mp e2).1
          rwa [List.length_set] at this
        rw [List.getElem?_set_self hl] at e2
        cases e2
        exact r.elim
      · rw [List.getElem?_set_ne hj] at e1 e3
        rw [List.getElem?_set_ne hk] at e2 e4
        exact h.dis j k x y a e1 e2 e3 e4
  live := h.live
theorem EnvOk.unset (h : EnvOk N w K G as He H σ ρ) (i : Nat) (o : Option V) : EnvOk N w K G as He H (σ.set i o) (ρ.set i none) where
  len := by rw [List.length_set, List.length_set]; exact h.len
  val := fun j y e => by
    by_cases hj : i = j
    · subst hj
      have hl : i < ρ.length := by
        have := (List.getElem?_eq_some_iff.mp e).1
        rwa [List.length_set] at this
      rw [List.getElem?_set_self hl] at e
      cases e
    · rw [List.getElem?_set_ne hj] at e ⊢
      exact h.val j y e
  dis := fun j k x y a e1 e2 e3 e4 => by
    have q : ∀ j x, (ρ.set i Option.none)[j]? = some (some x) → i ≠ j := fun j x e hj => by
      subst hj
      have hl : i < ρ.length := by
        have := (List.getElem?_eq_some_iff.mp e).1
        rwa [List.length_set] at this
      rw [List.getElem?_set_self hl] at e
      cases e
    have hj := q _ _ e1
    have hk := q _ _ e2
    rw [List.getElem?_set_ne hj] at e1 e3
    rw [List.getElem?_set_ne hk] at e2 e4
    exact h.dis j k x y a e1 e2 e3 e4
  live := h.live
theorem EnvOk.wipe (h : EnvOk N w K G as He H σ ρ) : ∀ is : List Nat, EnvOk N w K G as He H (L2.wipe σ is) (wipeE ρ is)
  | [] => h
  | i :: is => (EnvOk.wipe h is).unset i none
/-- names are forgotten, the slots stay -/
theorem EnvOk.forget (h : EnvOk N w K G as He H σ ρ) (i : Nat) : EnvOk N w K G as He H σ (ρ.set i none) := by
  have z := h.unset i (σ[i]?.getD none)
  have e : σ.set i (σ[i]?.getD none) = σ := by
    by_cases hi : i < σ.length
    · rw [List.getElem?_eq_getElem hi, Option.getD_some, List.set_getElem_self]
    · rw [List.set_eq_of_length_le (by omega)]
  rw [e] at z
  exact z
theorem EnvOk.forgets (h : EnvOk N w K G as He H σ ρ) : ∀ is : List Nat, EnvOk N w K G as He H σ (wipeE ρ is)
  | [] => h
  | i :: is => (EnvOk.forgets h is).forget i
theorem wipe_set {σ : St} {i : Nat} {x : Option V} : ∀ {is : List Nat}, i ∈ is → wipe (σ.set i x) is = wipe σ is
  | [], h => nomatch h
  | j :: is, h => by
    show (wipe (σ.set i x) is).set j none = (wipe σ is).set j none
    by_cases hi : i ∈ is
    · rw [wipe_set hi]
    · have e : i = j := by
        rcases List.mem_cons.mp h with h | h
        · exact h
        · exact absurd h hi
      subst e
      have q : ∀ (is : List Nat) (σ : St), i ∉ is → wipe (σ.set i x) is = (wipe σ is).set i x := by
        intro is
        induction is with
        | nil => intro σ _; rfl
        | cons k is ih =>
          intro σ hk
          have h1 : i ≠ k := fun z => hk (by simp [z])
          have h2 : i ∉ is := fun z => hk (by simp [z])
          show (wipe (σ.set i x) is).set k none = ((wipe σ is).set k none).set i x
          rw [ih σ h2, List.set_comm _ _ h1]
      rw [q is σ hi, List.set_set]
theorem wipe_wipe {σ : St} {is : List Nat} : wipe (wipe σ is) is = wipe σ is := by
  have q : ∀ (js : List Nat) (σ : St), (∀ j ∈ js, j ∈ is) → wipe (wipe σ js) is = wipe σ is := by
    intro js
    induction js with
    | nil => intro σ _; rfl
    | cons j js ih =>
      intro σ h
      show wipe ((wipe σ js).set j none) is = _
      rw [wipe_set (h j List.mem_cons_self)]
      exact ih σ fun k hk => h k (List.mem_cons_of_mem _ hk)
  exact q is σ fun j hj => hj
end

/-! ### targets -/
def Tg.slots : Tg → List Nat
  | .v i => [i]
  | .t is => is
section
variable (N : Nm) (w : World) (K : PySem.W.Frag)
def tG (tg : Tg) : TG := fun v σ H Q => ∃ d ρ ρ' G as He H0, EnvOk N w K G as He H0 σ ρ ∧ Sub G H ∧ Rep N w K G v d ∧ tg.bind d ρ = some ρ' ∧
  ∀ σ', EnvOk N w K G as He H0 σ' ρ' → (∀ is, (∀ i ∈ tg.slots, i ∈ is) → wipe σ' is = wipe σ is) → Q σ' H
def tGs (is : List Nat) : TGs := fun vs σ H Q => ∃ ds ρ ρ' G as He H0, EnvOk N w K G as He H0 σ ρ ∧ Sub G H ∧ Reps N w K G vs ds ∧ setAll is ds ρ = some ρ' ∧
  ∀ σ', EnvOk N w K G as He H0 σ' ρ' → (∀ js, (∀ i ∈ is, i ∈ js) → wipe σ' js = wipe σ js) → Q σ' H
end
theorem PG.imp {X : Cx} {e : Expr} {t t' : TG} (h : PG X e t) (i : ∀ v σ H Q, t' v σ H Q → t v σ H Q) : PG X e t' := ⟨fun pins s σ H v u Q I r q => h.run pins s σ H v u Q I r (i v σ H Q q)⟩
theorem PGs.imp {X : Cx} {e : List Expr} {t t' : TGs} (h : PGs X e t) (i : ∀ v σ H Q, t' v σ H Q → t v σ H Q) : PGs X e t' := ⟨fun pins s σ H v u Q I r q => h.run pins s σ H v u Q I r (i v σ H Q q)⟩
def notStarT : Expr → Bool
  | .Starred .. => false
  | _ => true
section
variable {N : Nm} {w : World} {K : PySem.W.Frag} {X : Cx} {pos : Pos}
theorem sg_name {i : Nat} {x : Str} (hN : X.N.Nodup) (hi : X.N[i]? = some x) (hx : Loc X.env.scope x) (hf : X.fn x = true ∨ X.env.scope.names.lookup x = some .local) : PG X (.Name x pos) (tG N w K (.v i)) := by
  refine PG.imp (pg_name hN hi hx hf) fun v σ H Q ⟨d, ρ, ρ', G, as, He, H0, en, wf, r, e, q⟩ => ?_
  cases e
  exact q _ (en.setR i (x := .d d) r) fun is h => wipe_set (h i (by simp [Tg.slots]))
theorem sgs_nil : PGs X [] (tGs N w K []) := by
  refine PGs.imp pgs_nil fun v σ H Q ⟨ds, ρ, ρ', G, as, He, H0, en, wf, r, e, q⟩ => ?_
  cases ds with
  | nil =>
    cases r
    cases e
    exact ⟨rfl, q σ en fun _ _ => rfl⟩
  | cons d ds => cases e
theorem sgs_cons {i : Nat} {is : List Nat} {x : Str} {es : List Expr} (hN : X.N.Nodup) (hi : X.N[i]? = some x) (hx : Loc X.env.scope x) (hf : X.fn x = true ∨ X.env.scope.names.lookup x = some .local) (h : PGs X es (tGs N w K is)) : PGs X (.Name x pos :: es) (tGs N w K (i :: is)) := by
  refine PGs.imp (pgs_cons (pg_name hN hi hx hf) h) fun v σ H Q ⟨ds, ρ, ρ', G, as, He, H0, en, wf, r, e, q⟩ => ?_
  cases ds with
  | nil => cases e
  | cons d ds =>
    cases r with
    | cons r rs =>
      refine ⟨_, _, rfl, ds, ρ.set i (some (.d d)), ρ', G, as, He, H0, en.setR i (x := .d d) r, wf, rs, e, fun σ' en' hw => q σ' en' fun js hj => ?_⟩
      rw [hw js fun k hk => hj k (List.mem_cons_of_mem _ hk)]
      exact wipe_set (hj i List.mem_cons_self)
end
section
variable {N : Nm} {X : Cx} {pos : Pos}
theorem sg_tup {is : List Nat} {es : List Expr} {k : Nat} (hc : X.calm = true) (h : PGs X es (tGs N X.w X.K is)) (hn : (assignEach es X.env).length = is.length) (hst : (assignEach es X.env).findIdx? (·.1) = none) : PG X (.Tuple es k pos) (tG N X.w X.K (.t is)) := by
  refine PG.imp (pg_tup hc h hn hst) fun v σ H Q ⟨d, ρ, ρ', G, as, He, H0, en, wf, r, e, q⟩ => ?_
  cases d with
  | tup xs =>
    obtain ⟨a, vs, rfl, h1, h2⟩ := r.tup_inv
    have hl : ∀ (is : List Nat) (xs : List D) (ρ ρ' : Env), setAll is xs ρ = some ρ' → xs.length = is.length := by
      intro is
      induction is with
      | nil => intro xs ρ ρ' e; cases xs <;> first | rfl | cases e
      | cons i is ih =>
        intro xs ρ ρ' e
        cases xs with
        | nil => cases e
        | cons x xs => rw [List.length_cons, List.length_cons, ih xs _ _ e]
    exact ⟨a, vs, rfl, SqT.sub h1 wf, by rw [h2.length]; exact hl is xs ρ ρ' e, xs, ρ, ρ', G, as, He, H0, en, wf, h2, e, q⟩
  | _ => cases e
end

/-! ### comprehensions -/
/-- nothing may be raised -/
abbrev W0 : WX := fun _ _ _ _ => False
section
variable {N : Nm} {w : World} {K : PySem.W.Frag} {W W' : WX} {σ σ' : St} {as as2 : List Addr} {G H G2 H2 : Hp}
theorem Good.nxAt {α β : Type} {r : Res α} {k : α → Mem → Res β} {Q : β → Mem → Hp → List Addr → Hp → Prop} {Q1 : α → Mem → Hp → List Addr → Hp → Prop} (h : Good N w K W σ as G H (r.nox.bind k) Q) (s : Stp as G H as2 G2 H2)
    (i : ∀ v M H1 G1 as1, r = .ok v M → Stp as2 G2 H2 as1 G1 H1 → Wf N w K G1 H1 as1 M → Good N w K W σ as G H (k v M) Q → Q1 v M G1 as1 H1) : Good N w K W' σ' as2 G2 H2 r Q1 := by
  cases r with
  | ok v M => exact fun H1 G1 as1 s f => i v M H1 G1 as1 rfl s f h
  | ex c fs M => exact h.elim
  | bad => exact h.elim
theorem Stp.upd_new {as0 : List Addr} {G0 Ha : Hp} {p : Addr} {o : HO} (s : Stp as0 G0 Ha as G H) (n : Ha p = none) : Stp as0 G0 Ha as G (upd H p o) where
  ext := s.ext
  pre := s.pre
  keep := fun a u h1 h2 => by rw [upd_ne (ne_of_none h1 n)]; exact s.keep a u h1 h2
  free := s.free
  new := s.new
  live := fun a u h => by
    obtain ⟨u', e⟩ := s.live a u h
    exact ⟨u', by rw [upd_ne (ne_of_none h n)]; exact e⟩
theorem Wf.upd_own {M : Mem} {p : Addr} {o : HO} (f : Wf N w K G H as M) (g : G p = none) (n : p ∉ as) : Wf N w K G (upd H p o) as M where
  sub := fun a u h => by rw [upd_ne (ne_of_none h g)]; exact f.sub a u h
  len := f.len
  mem := fun i a c h1 h2 => by
    have hne : a ≠ p := fun z => n (by rw [← z]; exact List.mem_of_getElem? h1)
    exact (f.mem i a c h1 h2).mono (fun u h => by rw [upd_ne hne]; exact h) Sub.refl fun _ _ z => z
  nd := f.nd
  out := f.out
/-- a turn's item, frozen -/
theorem yd_rep {d : D} {x : V} {H' : Hp} {M : Mem} (h : YD N w K G d H x H') (f : Wf N w K G2 H as M) (e : Sub G G2) : ∃ G3, Stp as G2 H as G3 H' ∧ Wf N w K G3 H' as M ∧ Rep N w K G3 x d ∧ (∀ p o, H p = some o → H' p = some o) ∧ (∀ p o, H p = some o → G2 p = none → G3 p = none) := by
  rcases h with ⟨rfl, r⟩ | ⟨T, vs, ds, rfl, rfl, nT, rfl, r⟩
  · exact ⟨G2, Stp.refl, f, Rep.sub e r, fun _ _ h => h, fun _ _ _ h => h⟩
  · have s := (Stp.new_ (as := as) (o := .tup vs) nT f.sub).freeze (o := .tup vs) (f.gnone nT) nT
    refine ⟨_, s, (f.new_ nT).freeze upd_same (f.gnone nT) (f.notin nT), .tup (SqT.of upd_same) (Reps.sub (upd_sub (f.gnone nT)) (Reps.sub e r)), fun p o h => ?_, fun p o h g => ?_⟩
    · rw [upd_ne (ne_of_none h nT)]; exact h
    · rw [upd_ne (ne_of_none h nT)]; exact g
end

section
variable (N : Nm) (T : Tab) (call : CallF) (W : WX) (X : Cx)
def tTs (es : List E) : TT := fun σ H Q => ∃ ρ M G as He, EnvOk N X.w X.K G as He H σ ρ ∧ Wf N X.w X.K G H as M ∧
  Good N X.w X.K W σ as G H (evalAll T call es ρ M) fun b _ G' as' H' => Q b H'
end
theorem PTs.imp {X : Cx} {e : List Expr} {t t' : TT} (h : PTs X e t) (i : ∀ σ H Q, t' σ H Q → t σ H Q) : PTs X e t' := ⟨fun pins s σ H Q I q => h.run pins s σ H Q I (i σ H Q q)⟩
section
variable {N : Nm} {T : Tab} {call : CallF} {W : WX} {X : Cx} {pos : Pos}
theorem sts_nil : PTs X [] (tTs N T call W X []) := PTs.imp pts_nil fun σ H Q ⟨ρ, M, G, as, He, en, wf, h⟩ => h H G as Stp.refl wf
theorem sts_one {pe : Expr} {e : E} (h : PT X pe (tT N T call W X e)) : PTs X [pe] (tTs N T call W X [e]) := by
  refine PTs.imp (pts_one h) fun σ H Q ⟨ρ, M, G, as, He, en, wf, h⟩ => ?_
  rw [evalAll] at h
  refine ⟨ρ, M, G, as, He, en, wf, h.bind fun v M1 H1 G1 as1 e1 s1 w1 h => ?_⟩
  obtain ⟨t, et, h⟩ := h.of
  refine ⟨t, et, ?_⟩
  cases t with
  | true => exact h H1 G1 as1 s1 w1
  | false => exact h H1 G1 as1 s1 w1
theorem lc_imp {e : E} {t : Tg} {k : Ik} {args ifs : List E} {own : List Nat} (hsl : ∀ i ∈ t.slots, i ∈ own) {σ : St} {H : Hp} {Q : VK} (h : tE N T call W X (.lc e t k args ifs own) σ H Q) :
    tLc (tIC N T call W X k args) (tG N X.w X.K t) (tTs N T call W0 X ifs) (tE N T call W0 X e) own σ H Q := by
  obtain ⟨ρ, M, G, as, He, en, wf, h⟩ := h
  rw [eval, ← Res.bind_assoc] at h
  refine ⟨ρ, M, G, as, He, en, wf, h.bind fun its M1 H1 G1 as1 e1 s1 w1 h J wk => fun D nD => ?_⟩
  obtain ⟨Y, hw, hy⟩ := wk
  have nDH : H D = none := s1.fresh nD
  refine lc_it hw (fun i H2 => ∃ M2 G2 as2 ys vs, Stp as1 G1 H1 as2 G2 H2 ∧ Wf N X.w X.K G2 H2 as2 M2 ∧ H2 D = some (.lst vs) ∧ Reps N X.w X.K G2 vs ys ∧ G2 D = none ∧ D ∉ as2 ∧
    Good N X.w X.K W σ as G H ((lcGo (fun x => t.bind x (wipeE ρ own)) (fun ρ M => (evalAll T call ifs ρ M).nox) (fun ρ M => ((eval T call e ρ M).bind fun v M => Res.of v.toD M).nox) (its.drop i) ys M2).bind fun ys M => .ok (.o (.lst ys)) M)
      fun v _ G' as' H' => ∀ x, VR N X.w X.K G' as' H H' x v → Q x H') ?_ ?_ ?_ ?_
  · exact ⟨M1, G1, as1, [], [], Stp.new_ nD w1.sub, w1.new_ nD, upd_same, .nil, w1.gnone nD, w1.notin nD, h⟩
  · rintro i H2 _ ⟨M2, G2, as2, ys, vs, s2, w2, _⟩
    exact ⟨G2, as2, s2, w2.sub⟩
  · rintro i x H2 H2' hi ⟨M2, G2, as2, ys, vs, s2, w2, hD, rs, gD, aD, h⟩ y
    obtain ⟨d, ed, yd⟩ := hy i H2 x H2' ⟨G2, as2, s2, w2.sub⟩ hi y
    obtain ⟨G3, s3, w3, r3, k3, g3⟩ := yd_rep yd w2 s2.ext
    have hdrop : its.drop i = d :: its.drop (i + 1) := by
      have hl := (List.getElem?_eq_some_iff.mp ed)
      obtain ⟨hl, e5⟩ := hl
      rw [← e5, List.drop_eq_getElem_cons hl]
    rw [hdrop, lcGo, Res.bind_assoc] at h
    obtain ⟨ρ2, eb, h⟩ := h.of
    have s03 := s1.trans (s2.trans s3)
    have en3 := (en.stp s03).wipe own
    refine ⟨d, wipeE ρ own, ρ2, G3, as2, He, _, en3, w3.sub, r3, eb, fun σ2 en2 hw2 => ⟨(hw2 own hsl).trans wipe_wipe, ?_⟩⟩
    rw [Res.bind_assoc] at h
    refine ⟨ρ2, M2, G3, as2, He, en2, w3, h.nxAt s03 fun b M4 H4 G4 as4 e4 s4 w4 h => ?_⟩
    have hD4 : H4 D = some (.lst vs) := s4.keep D _ (k3 D _ hD) aD
    have gD4 : G4 D = none := s4.free D _ (k3 D _ hD) (g3 D _ hD gD)
    have aD4 : D ∉ as4 := s4.notin aD (k3 D _ hD)
    cases b with
    | false =>
      refine ⟨M4, G4, as4, ys, vs, s2.trans (s3.trans s4), w4, hD4, Reps.sub (s3.ext.trans s4.ext) rs, gD4, aD4, h⟩
    | true =>
      rw [if_pos rfl, Res.bind_assoc] at h
      have s04 := s03.trans s4
      refine ⟨ρ2, M4, G4, as4, He, en2.stp s4, w4, ?_⟩
      have h' : Good N X.w X.K W σ as G H (((eval T call e ρ2 M4).bind fun v M => Res.of v.toD M).nox.bind fun y M => (if ys.length < sizeLine then lcGo (fun x => t.bind x (wipeE ρ own)) (fun ρ M => (evalAll T call ifs ρ M).nox) (fun ρ M => ((eval T call e ρ M).bind fun v M => Res.of v.toD M).nox) (its.drop (i + 1)) (ys ++ [y]) M else .bad).bind fun ys M => .ok (.o (.lst ys)) M)
        fun v _ G' as' H' => ∀ x, VR N X.w X.K G' as' H H' x v → Q x H' := h
      cases e5 : eval T call e ρ2 M4 with
      | bad => rw [e5] at h'; exact h'.elim
      | ex c fs M5 => rw [e5] at h'; exact h'.elim
      | ok v M5 =>
        rw [e5] at h'
        intro H5 G5 as5 s5 w5 y vr
        cases e6 : v.toD with
        | none => rw [Res.bind_ok, e6] at h'; exact h'.elim
        | some z =>
          rw [Res.bind_ok, e6, Res.of_some, Res.nox_ok, Res.bind_ok, Res.bind_ite] at h'
          obtain ⟨hlt, h'⟩ := Good.ite h'
          obtain ⟨G6, s6, w6, r6⟩ := vr.toD e6 w5 s5
          have hD5 : H5 D = some (.lst vs) := s6.keep D _ hD4 aD4
          have gD5 : G6 D = none := s6.free D _ hD4 gD4
          have aD5 : D ∉ as5 := s6.notin aD4 hD4
          have rs5 : Reps N X.w X.K G6 vs ys := Reps.sub (s3.ext.trans (s4.ext.trans s6.ext)) rs
          refine ⟨vs, hD5, by rw [rs5.length]; exact hlt, M5, G6, as5, ys ++ [z], vs ++ [y], (s2.trans (s3.trans (s4.trans s6))).upd_new nD, w6.upd_own gD5 aD5, upd_same, rs5.append (.cons r6 .nil), gD5, aD5, h'⟩
  · rintro H2 ⟨M2, G2, as2, ys, vs, s2, w2, hD, rs, gD, aD, h⟩
    rw [List.drop_length, lcGo] at h
    exact h H2 G2 as2 (s1.trans s2) w2 (.ref D) ⟨D, rfl, ⟨vs, hD, rs⟩, gD, aD, nDH⟩
theorem se_lc {elt tg iter : Expr} {pifs : List Expr} {scope : Scope} {ownn : List (Str × Nat)} {e : E} {t : Tg} {k : Ik} {args ifs : List E} {own : List Nat} (hc : X.calm = true) (hN : X.N.Nodup) (hi : PI X tg iter (tIC N T call W X k args)) (ok : BlkOk X.N X.env.scope scope ownn)
    (ho : ownn.map (·.2) = own) (hsl : ∀ i ∈ t.slots, i ∈ own)
    (hg : ∀ (s : Shared) (H : Hp) (C : Addr) (cl : List (Str × Addr)) (fp : List Addr), PG (X.blk s H scope (compEnvC scope cl C X.env) fp) tg (tG N X.w X.K t))
    (ht : ∀ (s : Shared) (H : Hp) (C : Addr) (cl : List (Str × Addr)) (fp : List Addr), PTs (X.blk s H scope (compEnvC scope cl C X.env) fp) pifs (tTs N T call W0 X ifs))
    (he : ∀ (s : Shared) (H : Hp) (C : Addr) (cl : List (Str × Addr)) (fp : List Addr), PE (X.blk s H scope (compEnvC scope cl C X.env) fp) elt (tE N T call W0 X e)) (hs : notSetI iter = true) :
    PE X (.ListComp elt [⟨tg, iter, pifs, 0⟩] scope pos) (tE N T call W X (.lc e t k args ifs own)) := by
  subst ho
  exact PE.imp (pe_lc hc hN hi ok hg ht he (folded_of hs)) fun σ H Q h => lc_imp hsl h
end
/-! ### comprehensions of two clauses -/
/-- a walk, turn by turn -/
theorem walk_it {J : It} {n : Nat} {GG : Hp → Prop} {Y : Nat → Hp → V → Hp → Prop} {B : (Hp → Prop) → V → Hp → Prop} {Qd : Hp → Prop} {H0 : Hp} (w : Walk J n GG Y) (Pv : Nat → Hp → Prop) (h0 : Pv 0 H0) (hG : ∀ i H, i ≤ n → Pv i H → GG H)
    (hs : ∀ i x H H', i < n → Pv i H → Y i H x H' → B (Pv (i + 1)) x H') (hd : ∀ H, Pv n H → Qd H) :
    ∃ W : Nat → Nat → Hp → Prop, (∃ m, W 0 m H0) ∧ ∀ i m H, W i m H → (J.stop i H ∧ Qd H) ∨ (J.go i H ∧ ∃ Nx : Hp → Prop, (∀ H', Nx H' → ∃ m', m' < m ∧ W (i + 1) m' H') ∧ ∀ x H', J.yld i H x H' → B Nx x H') := by
  refine ⟨fun i m H => m = n - i ∧ i ≤ n ∧ Pv i H, ⟨n, by simp, Nat.zero_le _, h0⟩, ?_⟩
  rintro i m H ⟨rfl, hi, p⟩
  have q := hG i H hi p
  by_cases hlt : i < n
  · refine .inr ⟨w.goes i H hlt q, Pv (i + 1), fun H' p' => ⟨n - (i + 1), by omega, rfl, hlt, p'⟩, fun x H' y => hs i x H H' hlt p (w.yields i H x H' hlt q y)⟩
  · have e : i = n := by omega
    subst e
    exact .inl ⟨w.stops H q, hd H p⟩
/-- the slots behind a walk that began where they stood -/
theorem EnvOk.lag {N : Nm} {w : World} {K : PySem.W.Frag} {as as1 : List Addr} {G G1 H H1 He : Hp} {σ : St} {ρ : Env} (h : EnvOk N w K G as He H σ ρ) (s : Stp as G H as1 G1 H1) : EnvOk N w K G1 as1 He H σ ρ where
  len := h.len
  val := fun i v e => by
    obtain ⟨x, h1, h2⟩ := h.val i v e
    refine ⟨x, h1, ?_⟩
    cases v with
    | d x => exact Rep.sub s.ext h2
    | r n => obtain ⟨a, k1, k2⟩ := h2; exact ⟨a, s.as_get k1, k2⟩
    | o x =>
      obtain ⟨a, k1, k2, k3, k4, k5⟩ := h2
      obtain ⟨o, e⟩ := k2.some
      exact ⟨a, k1, k2.stp (fun _ z => z) s.ext, s.free a o e k3, s.notin k4 e, k5⟩
    | b x => exact h2
  dis := h.dis
  live := h.live
theorem EnvOk.catch {N : Nm} {w : World} {K : PySem.W.Frag} {as as1 as5 : List Addr} {G G1 G5 H1 H5 He : Hp} {σ : St} {ρ : Env} (h : EnvOk N w K G as He H1 σ ρ) (g : Sub G1 G) (p : ∀ a ∈ as1, a ∈ as) (s : Stp as1 G1 H1 as5 G5 H5) (g5 : Sub G G5) (p5 : ∃ more, as5 = as ++ more) : EnvOk N w K G5 as5 He H5 σ ρ where
  len := h.len
  val := fun i v e => by
    obtain ⟨x, h1, h2⟩ := h.val i v e
    refine ⟨x, h1, ?_⟩
    cases v with
    | d x => exact Rep.sub g5 h2
    | r n =>
      obtain ⟨a, k1, k2⟩ := h2
      obtain ⟨m, rfl⟩ := p5
      exact ⟨a, by rw [List.getElem?_append_left (List.getElem?_eq_some_iff.mp k1).1]; exact k1, k2⟩
    | o x =>
      obtain ⟨a, k1, k2, k3, k4, k5⟩ := h2
      obtain ⟨o, e⟩ := k2.some
      have n1 : a ∉ as1 := fun z => k4 (p a z)
      have g1 : G1 a = none := by
        cases q : G1 a with
        | none => rfl
        | some u => rw [g a u q] at k3; cases k3
      exact ⟨a, k1, k2.stp (s.kept n1) g5, s.free a o e g1, s.notin n1 e, k5⟩
    | b x => exact h2
  dis := h.dis
  live := fun a o e => by
    obtain ⟨o', e'⟩ := h.live a o e
    exact s.live a o' e'
section
variable {N : Nm} {T : Tab} {call : CallF} {W : WX} {X : Cx} {pos : Pos}
theorem lc2_imp {e : E} {t t2 : Tg} {k k2 : Ik} {args args2 : List E} {own own2 : List Nat} (hsl : ∀ i ∈ t.slots, i ∈ own) (hsl2 : ∀ i ∈ t2.slots, i ∈ own2) {σ : St} {H : Hp} {Q : VK} (h : tE N T call W X (.lc2 e t k args t2 k2 args2 own own2) σ H Q) :
    tLc2 (tIC N T call W X k args) (tG N X.w X.K t) (fun _ H Q => Q true H) (tIS N T call W0 X k2 args2) (tG N X.w X.K t2) (fun _ H Q => Q true H) (tE N T call W0 X e) own own2 σ H Q := by
  obtain ⟨ρ, M, G, as, He, en, wf, h⟩ := h
  rw [eval, ← Res.bind_assoc] at h
  refine ⟨ρ, M, G, as, He, en, wf, h.bind fun its M1 H1 G1 as1 e1 s1 w1 h J wk => fun D nD => ?_⟩
  obtain ⟨Y, hw, hy⟩ := wk
  have nDH : H D = none := s1.fresh nD
  generalize hin : (fun (ρ : Env) (acc : List Fm.D) (M : Mem) => ((evalDs T call args2 ρ M).bind fun xs M => Res.of (turns k2 xs) M).nox.bind fun its2 M => lcGo (fun x => t2.bind x (wipeE ρ own2)) (fun _ M => .ok true M) (fun ρ M => ((eval T call e ρ M).bind fun v M => Res.of v.toD M).nox) its2 acc M) = inner at h
  let Pv : Nat → Hp → Prop := fun i H2 => ∃ M2 G2 as2 ys vs, Stp as1 G1 H1 as2 G2 H2 ∧ Wf N X.w X.K G2 H2 as2 M2 ∧ H2 D = some (.lst vs) ∧ Reps N X.w X.K G2 vs ys ∧ G2 D = none ∧ D ∉ as2 ∧
    Good N X.w X.K W σ as G H ((lc2Go (fun x => t.bind x (wipeE ρ own)) inner (its.drop i) ys M2).bind fun ys M => .ok (.o (.lst ys)) M)
      fun v _ G' as' H' => ∀ x, VR N X.w X.K G' as' H H' x v → Q x H'
  refine walk_it hw Pv ?_ ?_ ?_ ?_
  · exact ⟨M1, G1, as1, [], [], Stp.new_ nD w1.sub, w1.new_ nD, upd_same, .nil, w1.gnone nD, w1.notin nD, h⟩
  · rintro i H2 _ ⟨M2, G2, as2, ys, vs, s2, w2, _⟩
    exact ⟨G2, as2, s2, w2.sub⟩
  · rintro i x H2 H2' hi ⟨M2, G2, as2, ys, vs, s2, w2, hD, rs, gD, aD, h⟩ y
    obtain ⟨d, ed, yd⟩ := hy i H2 x H2' ⟨G2, as2, s2, w2.sub⟩ hi y
    obtain ⟨G3, s3, w3, r3, k3, g3⟩ := yd_rep yd w2 s2.ext
    have hdrop : its.drop i = d :: its.drop (i + 1) := by
      obtain ⟨hl, e5⟩ := List.getElem?_eq_some_iff.mp ed
      rw [← e5, List.drop_eq_getElem_cons hl]
    rw [hdrop, lc2Go, Res.bind_assoc] at h
    obtain ⟨ρ2, eb, h⟩ := h.of
    have s13 := s2.trans s3
    have s03 := s1.trans s13
    have en1 := (en.stp s1).wipe own
    refine ⟨d, wipeE ρ own, ρ2, G3, as2, He, H1, en1.lag s13, w3.sub, r3, eb, fun σ2 en2 hw2 => ⟨(hw2 own hsl).trans wipe_wipe, ?_⟩⟩
    refine (if_pos rfl : (if (true : Bool) = true then _ else _) = _).mpr ?_
    have hsub13 : ∀ a ∈ as1, a ∈ as2 := fun a ha => by obtain ⟨m, rfl⟩ := s13.pre; exact List.mem_append_left _ ha
    have en2' := en2.catch s13.ext hsub13 s13 Sub.refl ⟨[], by simp⟩
    rw [← hin] at h
    dsimp only at h
    rw [Res.bind_assoc, Res.bind_assoc] at h
    refine ⟨ρ2, M2, G3, as2, He, en2', w3, h.nxAt s03 fun its2 M4 H4 G4 as4 e4 s4 w4 h J1 wk1 => ?_⟩
    rw [hin] at h
    obtain ⟨Y1, hw1, hy1⟩ := wk1
    have s14 := s13.trans s4
    have hD4 : H4 D = some (.lst vs) := s4.keep D _ (k3 D _ hD) aD
    have gD4 : G4 D = none := s4.free D _ (k3 D _ hD) (g3 D _ hD gD)
    have aD4 : D ∉ as4 := s4.notin aD (k3 D _ hD)
    let Pv1 : Nat → Hp → Prop := fun j H5 => ∃ M5 G5 as5 ys vs, Stp as1 G1 H1 as5 G5 H5 ∧ Wf N X.w X.K G5 H5 as5 M5 ∧ H5 D = some (.lst vs) ∧ Reps N X.w X.K G5 vs ys ∧ G5 D = none ∧ D ∉ as5 ∧ Sub G4 G5 ∧ (∃ more, as5 = as4 ++ more) ∧
      Good N X.w X.K W σ as G H ((lcGo (fun x => t2.bind x (wipeE ρ2 own2)) (fun _ M => .ok true M) (fun ρ M => ((eval T call e ρ M).bind fun v M => Res.of v.toD M).nox) (its2.drop j) ys M5).bind fun acc M => (lc2Go (fun x => t.bind x (wipeE ρ own)) inner (its.drop (i + 1)) acc M).bind fun ys M => .ok (.o (.lst ys)) M)
        fun v _ G' as' H' => ∀ x, VR N X.w X.K G' as' H H' x v → Q x H'
    refine walk_it hw1 Pv1 ?_ ?_ ?_ ?_
    · exact ⟨M4, G4, as4, ys, vs, s14, w4, hD4, Reps.sub (s3.ext.trans s4.ext) rs, gD4, aD4, Sub.refl, ⟨[], by simp⟩, h⟩
    · rintro j H5 _ ⟨M5, G5, as5, ys, vs, s5, w5, _, _, _, _, g45, _⟩
      exact g45.trans w5.sub
    · rintro j z H5 H5' hj ⟨M5, G5, as5, ys, vs, s5, w5, hD5, rs5, gD5, aD5, g45, p45, h⟩ y5
      obtain ⟨d5, ed5, yd5⟩ := hy1 j H5 z H5' (g45.trans w5.sub) hj y5
      obtain ⟨G6, s6, w6, r6, k6, g6⟩ := yd_rep yd5 w5 g45
      have hdrop5 : its2.drop j = d5 :: its2.drop (j + 1) := by
        obtain ⟨hl, e5⟩ := List.getElem?_eq_some_iff.mp ed5
        rw [← e5, List.drop_eq_getElem_cons hl]
      rw [hdrop5, lcGo, Res.bind_assoc] at h
      obtain ⟨ρ3, eb3, h⟩ := h.of
      rw [Res.bind_ok, if_pos rfl, Res.bind_assoc] at h
      have s16 := s5.trans s6
      have p36 : ∃ more, as5 = as2 ++ more := by
        obtain ⟨m, rfl⟩ := p45
        obtain ⟨m', rfl⟩ := s4.pre
        exact ⟨m' ++ m, by simp⟩
      have g36 : Sub G3 G6 := s4.ext.trans (g45.trans s6.ext)
      have en6 := (en2.catch s13.ext hsub13 s16 g36 p36).wipe own2
      refine ⟨d5, wipeE ρ2 own2, ρ3, G6, as5, He, _, en6, w6.sub, r6, eb3, fun σ3 en3 hw3 => ⟨(hw3 own2 hsl2).trans wipe_wipe, ?_⟩⟩
      refine (if_pos rfl : (if (true : Bool) = true then _ else _) = _).mpr ?_
      refine ⟨ρ3, M5, G6, as5, He, en3, w6, ?_⟩
      have s06 := s1.trans s16
      have hD6 : H5' D = some (.lst vs) := k6 D _ hD5
      have gD6 : G6 D = none := g6 D _ hD5 gD5
      cases e5 : eval T call e ρ3 M5 with
      | bad => rw [e5] at h; exact h.elim
      | ex c fs M5 => rw [e5] at h; exact h.elim
      | ok v M7 =>
        rw [e5] at h
        intro H7 G7 as7 s7 w7 y vr
        cases e6 : v.toD with
        | none => rw [Res.bind_ok, e6] at h; exact h.elim
        | some q =>
          rw [Res.bind_ok, e6, Res.of_some, Res.nox_ok, Res.bind_ok, Res.bind_ite] at h
          obtain ⟨hlt, h⟩ := Good.ite h
          obtain ⟨G8, s8, w8, r8⟩ := vr.toD e6 w7 s7
          have hD8 : H7 D = some (.lst vs) := s8.keep D _ hD6 aD5
          have gD8 : G8 D = none := s8.free D _ hD6 gD6
          have aD8 : D ∉ as7 := s8.notin aD5 hD6
          have rs8 : Reps N X.w X.K G8 vs ys := Reps.sub (s6.ext.trans s8.ext) rs5
          refine ⟨vs, hD8, by rw [rs8.length]; exact hlt, M7, G8, as7, ys ++ [q], vs ++ [y], (s16.trans s8).upd_new nD, w8.upd_own gD8 aD8, upd_same, rs8.append (.cons r8 .nil), gD8, aD8, g45.trans (s6.ext.trans s8.ext), ?_, h⟩
          obtain ⟨m, rfl⟩ := p45
          obtain ⟨m', rfl⟩ := s8.pre
          exact ⟨m ++ m', by simp⟩
    · rintro H5 ⟨M5, G5, as5, ys, vs, s5, w5, hD5, rs5, gD5, aD5, _, _, h⟩
      rw [List.drop_length, lcGo, Res.bind_ok] at h
      exact ⟨M5, G5, as5, ys, vs, s5, w5, hD5, rs5, gD5, aD5, h⟩
  · rintro H2 ⟨M2, G2, as2, ys, vs, s2, w2, hD, rs, gD, aD, h⟩
    rw [List.drop_length, lc2Go] at h
    exact h H2 G2 as2 (s1.trans s2) w2 (.ref D) ⟨D, rfl, ⟨vs, hD, rs⟩, gD, aD, nDH⟩
theorem se_lc2 {elt tg iter tg1 iter1 : Expr} {scope : Scope} {ownn : List (Str × Nat)} {e : E} {t t2 : Tg} {k k2 : Ik} {args args2 : List E} {own own2 : List Nat} (hc : X.calm = true) (hN : X.N.Nodup) (hi : PI X tg iter (tIC N T call W X k args)) (ok : BlkOk X.N X.env.scope scope ownn)
    (ho : ownn.map (·.2) = own) (hv : ∀ i ∈ own2, i ∈ own) (hsl : ∀ i ∈ t.slots, i ∈ own) (hsl2 : ∀ i ∈ t2.slots, i ∈ own2)
    (hg : ∀ (s : Shared) (H : Hp) (C : Addr) (cl : List (Str × Addr)) (fp : List Addr), PG (X.blk s H scope (compEnvC scope cl C X.env) fp) tg (tG N X.w X.K t))
    (hi1 : ∀ (s : Shared) (H : Hp) (C : Addr) (cl : List (Str × Addr)) (fp : List Addr), PI (X.blk s H scope (compEnvC scope cl C X.env) fp) tg1 iter1 (tIS N T call W0 X k2 args2))
    (hg1 : ∀ (s : Shared) (H : Hp) (C : Addr) (cl : List (Str × Addr)) (fp : List Addr), PG (X.blk s H scope (compEnvC scope cl C X.env) fp) tg1 (tG N X.w X.K t2))
    (he : ∀ (s : Shared) (H : Hp) (C : Addr) (cl : List (Str × Addr)) (fp : List Addr), PE (X.blk s H scope (compEnvC scope cl C X.env) fp) elt (tE N T call W0 X e)) (hs : notSetI iter = true) (hs1 : notSetI iter1 = true) :
    PE X (.ListComp elt [⟨tg, iter, [], 0⟩, ⟨tg1, iter1, [], 0⟩] scope pos) (tE N T call W X (.lc2 e t k args t2 k2 args2 own own2)) := by
  subst ho
  exact PE.imp (pe_lc2 hc hN hi ok hv hg (fun _ _ _ _ _ => pts_nil) hi1 hg1 (fun _ _ _ _ _ => pts_nil) he (folded_of hs) (fun _ => folded_of hs1)) fun σ H Q h => lc2_imp hsl hsl2 h
end
end Fm
end

/-! ## part MA -/
section
set_option maxHeartbeats 4000000
namespace Fm
open PySem

/-! ### zip of two tuples whose pair is still held -/
section
variable {prog : Program} {w : World} {A : Around} {E : Value → Shared → Prop} {s : Shared}
theorem zth_item {q ta tb p i j a b : Addr} {f : Bool} {op : Obj} {m n : Nat} {us vs : Array Value} {u v : Value} {R : Value → Shared → Prop} (D : ZipApart q ta tb i j a b)
    (hq : IsZipHeld s.heap q ta tb p f) (hp : s.heap.get? p = some op) (ht : IsPair s.heap ta (.ref i) (.ref j))
    (hi : s.heap.IsTupleIter i a m) (hj : s.heap.IsTupleIter j b n) (ha : s.heap.IsTuple a us) (hb : s.heap.IsTuple b vs) (eu : us[m]? = some u) (ev : vs[n]? = some v)
    (k : ∀ h', IsZipHeld h' q ta tb p true → h'.IsTupleIter i a (m + 1) → h'.IsTupleIter j b (n + 1) → IsPair h' s.heap.objs.size u v → h'.objs.size = s.heap.objs.size + 1 →
      (∀ c o, c ≠ q → c ≠ i → c ≠ j → s.heap.get? c = some o → h'.get? c = some o) → R (.ref s.heap.objs.size) { s with heap := h' }) :
    wpAny (model prog w) A (Builtin.«zip.__next__» ⟨[.ref q], []⟩) (fun fin s' => ∃ v, fin = .done (.ret v) ∧ R v s') E s := by
  show wpAny _ _ (field (.ref q) 2 >>= _) _ _ _
  refine wpAny_bind (wpAny_field hq rfl (x := .bool false) rfl ?_); show wpAny _ _ (field (.ref q) 3 >>= _) _ _ _
  refine wpAny_bind (wpAny_field hq rfl (x := .ref ta) rfl (wpAny_bind (wpAny_seqItems ht rfl ?_)))
  show wpAny _ _ (Builtin.SmallTypes.ownedTupleIsFree (.ref q) >>= _) _ _ _
  refine wpAny_bind (wpAny_tupleHeld_zip hq hp fun g1 z1 b1 => ?_)
  rw [if_neg Bool.false_ne_true]
  refine wpAny_bind ?_
  rw [← Array.forIn_toList]; simp only [List.forIn_cons, List.forIn_nil]
  refine wpAny_bind (wpAny_bind (wpAny_holding ?_)); show wpAny _ _ (Builtin.SmallTypes.nextOf (.ref i) >>= _) _ _ _
  refine wpAny_bind (RZ.nextOf_tuple_item (s := { s with heap := g1 }) (hi.extBut b1.extBut D.i1z) (ha.extBut b1.extBut D.l1z) eu fun g2 i2 b2 => wpAny_pure (wpAny_pure ?_))
  refine wpAny_bind (wpAny_bind (wpAny_holding ?_)); show wpAny _ _ (Builtin.SmallTypes.nextOf (.ref j) >>= _) _ _ _
  refine wpAny_bind (RZ.nextOf_tuple_item (s := { s with heap := g2 }) ((hj.extBut b1.extBut D.i2z).extBut b2.extBut D.i12.symm) ((hb.extBut b1.extBut D.l2z).extBut b2.extBut D.l2i1) ev fun g3 j3 b3 => wpAny_pure (wpAny_pure (wpAny_pure ?_)))
  show wpAny _ _ (newTuple [u, v] >>= _) _ _ _
  refine wpAny_bind (wpAny_newTuple (wpAny_pure ⟨_, rfl, ?_⟩))
  have e3 : g3.objs.size = s.heap.objs.size := by rw [b3.1, b2.1, b1.1]
  have z3 : IsZipHeld g3 q ta tb p true := b3.extBut _ _ D.i2z.symm (b2.extBut _ _ D.i1z.symm z1)
  have kp : ∀ c o, c ≠ q → c ≠ i → c ≠ j → s.heap.get? c = some o → g3.get? c = some o := fun c o n1 n2 n3 e => b3.extBut _ _ n3 (b2.extBut _ _ n2 (b1.extBut _ _ n1 e))
  have i3 : g3.IsTupleIter i a (m + 1) := i2.extBut b3.extBut D.i12
  show R (.ref g3.objs.size) _
  have pr : IsPair (g3.push { cls := .type "tuple", data := .seq #[u, v] }) g3.objs.size u v := Heap.get?_push_size _ rfl
  have sz : (g3.push { cls := .type "tuple", data := .seq #[u, v] }).objs.size = g3.objs.size + 1 := Heap.size_push ..
  rw [e3] at pr sz ⊢
  exact k _ (Heap.get?_push_of_some _ z3) (i3.at fun o e => Heap.get?_push_of_some _ e) (j3.at fun o e => Heap.get?_push_of_some _ e) pr sz fun c o n1 n2 n3 e => Heap.get?_push_of_some _ (kp c o n1 n2 n3 e)
theorem zth_end {q ta tb p i j a b : Addr} {f : Bool} {op : Obj} {m n : Nat} {us vs : Array Value} {R : Fin → Shared → Prop} (hh : A.handled = none) (D : ZipApart q ta tb i j a b)
    (hq : IsZipHeld s.heap q ta tb p f) (hp : s.heap.get? p = some op) (ht : IsPair s.heap ta (.ref i) (.ref j))
    (hi : s.heap.IsTupleIter i a m) (hj : s.heap.IsTupleIter j b n) (ha : s.heap.IsTuple a us) (hb : s.heap.IsTuple b vs) (en : us[m]? = none ∨ vs[n]? = none)
    (k : ∀ h' e, (∀ c o, c ≠ q → c ≠ i → c ≠ j → s.heap.get? c = some o → h'.get? c = some o) → (∃ o, h'.get? e = some o ∧ o.cls = .type "StopIteration") → E (.ref e) { s with heap := h' }) :
    wpAny (model prog w) A (Builtin.«zip.__next__» ⟨[.ref q], []⟩) R E s := by
  show wpAny _ _ (field (.ref q) 2 >>= _) _ _ _
  refine wpAny_bind (wpAny_field hq rfl (x := .bool false) rfl ?_); show wpAny _ _ (field (.ref q) 3 >>= _) _ _ _
  refine wpAny_bind (wpAny_field hq rfl (x := .ref ta) rfl (wpAny_bind (wpAny_seqItems ht rfl ?_)))
  show wpAny _ _ (Builtin.SmallTypes.ownedTupleIsFree (.ref q) >>= _) _ _ _
  refine wpAny_bind (wpAny_tupleHeld_zip hq hp fun g1 z1 b1 => ?_)
  rw [if_neg Bool.false_ne_true]
  refine wpAny_bind ?_
  rw [← Array.forIn_toList]; simp only [List.forIn_cons, List.forIn_nil]
  refine wpAny_bind (wpAny_bind (wpAny_holding ?_)); show wpAny _ _ (Builtin.SmallTypes.nextOf (.ref i) >>= _) _ _ _
  cases eu : us[m]? with
  | none => exact wpAny_bind (RZ.nextOf_tuple_end (s := { s with heap := g1 }) hh (hi.extBut b1.extBut D.i1z) (ha.extBut b1.extBut D.l1z) eu fun g2 e b2 he => k g2 e (fun c o n1 n2 _ x => b2 _ _ n2 (b1.extBut _ _ n1 x)) he)
  | some u =>
    have ev : vs[n]? = none := by rcases en with z | z <;> first | exact z | (rw [eu] at z; cases z)
    refine wpAny_bind (RZ.nextOf_tuple_item (s := { s with heap := g1 }) (hi.extBut b1.extBut D.i1z) (ha.extBut b1.extBut D.l1z) eu fun g2 i2 b2 => wpAny_pure (wpAny_pure ?_))
    refine wpAny_bind (wpAny_bind (wpAny_holding ?_)); show wpAny _ _ (Builtin.SmallTypes.nextOf (.ref j) >>= _) _ _ _
    exact wpAny_bind (RZ.nextOf_tuple_end (s := { s with heap := g2 }) hh ((hj.extBut b1.extBut D.i2z).extBut b2.extBut D.i12.symm) ((hb.extBut b1.extBut D.l2z).extBut b2.extBut D.l2i1) ev fun g3 e b3 he => k g3 e (fun c o n1 n2 n3 x => b3 _ _ n3 (b2.extBut _ _ n2 (b1.extBut _ _ n1 x))) he)
theorem zth_pyItem {q ta tb p i j a b : Addr} {f : Bool} {op : Obj} {m n : Nat} {us vs : Array Value} {u v : Value} {R : Option Value → Shared → Prop} (D : ZipApart q ta tb i j a b)
    (hq : IsZipHeld s.heap q ta tb p f) (hp : s.heap.get? p = some op) (ht : IsPair s.heap ta (.ref i) (.ref j))
    (hi : s.heap.IsTupleIter i a m) (hj : s.heap.IsTupleIter j b n) (ha : s.heap.IsTuple a us) (hb : s.heap.IsTuple b vs) (eu : us[m]? = some u) (ev : vs[n]? = some v)
    (k : ∀ h', IsZipHeld h' q ta tb p true → h'.IsTupleIter i a (m + 1) → h'.IsTupleIter j b (n + 1) → IsPair h' s.heap.objs.size u v → h'.objs.size = s.heap.objs.size + 1 →
      (∀ c o, c ≠ q → c ≠ i → c ≠ j → s.heap.get? c = some o → h'.get? c = some o) → R (some (.ref s.heap.objs.size)) { s with heap := h' }) : wpAny (model prog w) A (pyNext (.ref q)) R E s := by
  have ty : s.TypeIs (.ref q) "zip" := ⟨_, hq, rfl⟩
  unfold pyNext
  refine wpAny_bind (wpAny_attempt (wpAny_callSpecial?_slot (name := Str.ofString "__next__") ty F.slot_zip_next ?_))
  exact wpAny_call_entry F.slot_zip_next ty F.entry_zip_next (zth_item D hq hp ht hi hj ha hb eu ev fun h' c1 c2 c3 c4 c5 c6 => wpAny_pure (k h' c1 c2 c3 c4 c5 c6)) (F.args_zip_next_1 _)
theorem zth_pyEnd {q ta tb p i j a b : Addr} {f : Bool} {op : Obj} {m n : Nat} {us vs : Array Value} {R : Option Value → Shared → Prop} (hh : A.handled = none) (D : ZipApart q ta tb i j a b)
    (hq : IsZipHeld s.heap q ta tb p f) (hp : s.heap.get? p = some op) (ht : IsPair s.heap ta (.ref i) (.ref j))
    (hi : s.heap.IsTupleIter i a m) (hj : s.heap.IsTupleIter j b n) (ha : s.heap.IsTuple a us) (hb : s.heap.IsTuple b vs) (en : us[m]? = none ∨ vs[n]? = none)
    (k : ∀ h', (∀ c o, c ≠ q → c ≠ i → c ≠ j → s.heap.get? c = some o → h'.get? c = some o) → R none { s with heap := h' }) : wpAny (model prog w) A (pyNext (.ref q)) R E s := by
  have ty : s.TypeIs (.ref q) "zip" := ⟨_, hq, rfl⟩
  unfold pyNext
  refine wpAny_bind (wpAny_attempt (wpAny_callSpecial?_slot (name := Str.ofString "__next__") ty F.slot_zip_next ?_))
  refine wpAny_call_entry F.slot_zip_next ty F.entry_zip_next (zth_end hh D hq hp ht hi hj ha hb en fun h' e kp he => ?_) (F.args_zip_next_1 _)
  obtain ⟨o, ho, hc⟩ := he
  exact wpAny_bind (wpAny_isInstance (T := "StopIteration") (b := true) ⟨o, ho, hc⟩ isSubtype_stop (wpAny_pure (k _ kp)))
end
theorem argZipT {prog : Program} {w : World} (q ta tb i j a b : Addr) (D : ZipApart q ta tb i j a b) (us vs : Array Value) :
    PairArg prog w "zip" q [q, ta, tb, i, j, a, b] [q, tb, i, j] (min us.size vs.size) (fun k x y => us[k]? = some x ∧ vs[k]? = some y)
      (fun h => IsZip h q ta tb .none ∧ IsPair h ta (.ref i) (.ref j) ∧ (∃ x y, IsPair h tb x y) ∧ h.IsTupleIter i a 0 ∧ h.IsTupleIter j b 0 ∧ h.IsTuple a us ∧ h.IsTuple b vs) where
  type := fun s ok => ⟨_, ok.1, rfl⟩
  notDict := by decide
  keep := fun h h' ⟨z1, z2, ⟨x, y, z3⟩, z4, z5, z6, z7⟩ hk =>
    ⟨hk _ _ z1, hk _ _ z2, ⟨x, y, hk _ _ z3⟩, z4.at fun o e => hk _ o e, z5.at fun o e => hk _ o e, z6.at fun o e => hk _ o e, z7.at fun o e => hk _ o e⟩
  there := fun h ⟨z1, z2, ⟨x, y, z3⟩, ⟨o1, z4, _⟩, ⟨o2, z5, _⟩, ⟨o3, z6, _⟩, ⟨o4, z7, _⟩⟩ c hc => by
    have hc' : c = q ∨ c = ta ∨ c = tb ∨ c = i ∨ c = j ∨ c = a ∨ c = b := by simpa using hc
    rcases hc' with e | e | e | e | e | e | e <;> subst e
    · exact ⟨_, z1⟩
    · exact ⟨_, z2⟩
    · exact ⟨_, z3⟩
    · exact ⟨_, z4⟩
    · exact ⟨_, z5⟩
    · exact ⟨_, z6⟩
    · exact ⟨_, z7⟩
  sub := fun c hc => by
    have hc' : c = q ∨ c = tb ∨ c = i ∨ c = j := by simpa using hc
    rcases hc' with e | e | e | e <;> subst e <;> simp
  noKeys := fun A s Q E hA ok h => getAttrOr_miss_zip ok.1 rfl rfl rfl zip_no_keys (by decide +kernel) hA h
  iter := fun A s d Q E hA ok hd hdf h => by
    obtain ⟨z1, z2, ⟨x, y, z3⟩, z4, z5, z6, z7⟩ := ok
    have df : d ≠ q ∧ d ≠ ta ∧ d ≠ tb ∧ d ≠ i ∧ d ≠ j ∧ d ≠ a ∧ d ≠ b := by simpa using hdf
    obtain ⟨d1, d2, d3, d4, d5, d6, d7⟩ := df
    let St : Nat → Heap → Prop := fun k h => IsPair h ta (.ref i) (.ref j) ∧ h.IsTupleIter i a k ∧ h.IsTupleIter j b k ∧ h.IsTuple a us ∧ h.IsTuple b vs ∧
      ((IsZip h q ta tb .none ∧ ∃ x y, IsPair h tb x y) ∨ ∃ p f op, IsZipHeld h q ta tb p f ∧ h.get? p = some op ∧ p ≠ q ∧ p ≠ i ∧ p ≠ j ∧ p ≠ d)
    refine wpAny_pyIter_zip z1 (h q [q, tb, i, j] St s.heap s.toks ?_ ⟨z2, z4, z5, z6, z7, .inl ⟨z1, x, y, z3⟩⟩ (fun _ _ e => e) fun c hc => .inl hc)
    exact {
      off := fun hm => by
        have hm' : d = q ∨ d = tb ∨ d = i ∨ d = j := by simpa using hm
        rcases hm' with e | e | e | e
        · exact d1 e
        · exact d3 e
        · exact d4 e
        · exact d5 e
      frame := fun k g1 g2 ⟨y2, y4, y5, y6, y7, y8⟩ kp => by
        refine ⟨kp _ _ (Ne.symm d2) y2, y4.at fun o e => kp _ o (Ne.symm d4) e, y5.at fun o e => kp _ o (Ne.symm d5) e, y6.at fun o e => kp _ o (Ne.symm d6) e, y7.at fun o e => kp _ o (Ne.symm d7) e, ?_⟩
        rcases y8 with ⟨y1, x, y, y3⟩ | ⟨p, f, op, y1, yp, n1, n2, n3, n4⟩
        · exact .inl ⟨kp _ _ (Ne.symm d1) y1, x, y, kp _ _ (Ne.symm d3) y3⟩
        · exact .inr ⟨p, f, op, kp _ _ (Ne.symm d1) y1, kp _ _ n4 yp, n1, n2, n3, n4⟩
      item := fun k s1 Q1 E1 hk ⟨y2, y4, y5, y6, y7, y8⟩ hds hQ => by
        have eu := Array.getElem?_eq_getElem (Nat.lt_of_lt_of_le hk (Nat.min_le_left us.size vs.size))
        have ev := Array.getElem?_eq_getElem (Nat.lt_of_lt_of_le hk (Nat.min_le_right us.size vs.size))
        have far : ∀ {c o}, s1.heap.get? c = some o → s1.heap.objs.size ≠ c := fun e => Nat.ne_of_gt (Heap.lt_size e)
        have n2 : s1.heap.objs.size ≠ i := let ⟨_, e, _⟩ := y4; far e
        have n3 : s1.heap.objs.size ≠ j := let ⟨_, e, _⟩ := y5; far e
        rcases y8 with ⟨y1, x, y, y3⟩ | ⟨p, f, op, y1, yp, r1, r2, r3, r4⟩
        · refine RZ.pyNext_zipT_item D y1 y2 y3 y4 y5 y6 y7 eu ev fun g a1 a2 a3 a4 a5 a6 kp => ?_
          exact hQ s1.heap.objs.size _ _ g s1.toks ⟨eu, ev⟩ (.inl ⟨_, a5, rfl, _, rfl⟩)
            ⟨kp _ _ D.TIz D.TITO D.TIi1 D.TIi2 y2, a3, a4, y6.at fun o e => kp _ o D.l1z D.l1TO D.l1i1 D.l1i2 e, y7.at fun o e => kp _ o D.l2z D.l2TO D.l2i1 D.l2i2 e, .inr ⟨s1.heap.objs.size, false, _, a1, a5, far y1, n2, n3, Nat.ne_of_gt hds⟩⟩
            fun c o hc e => kp c o (fun z => hc (by simp [z])) (fun z => hc (by simp [z])) (fun z => hc (by simp [z])) (fun z => hc (by simp [z])) e
        · refine zth_pyItem D y1 yp y2 y4 y5 y6 y7 eu ev fun g a1 a3 a4 a5 a6 kp => ?_
          exact hQ s1.heap.objs.size _ _ g s1.toks ⟨eu, ev⟩ (.inl ⟨_, a5, rfl, _, rfl⟩)
            ⟨kp _ _ D.TIz D.TIi1 D.TIi2 y2, a3, a4, y6.at fun o e => kp _ o D.l1z D.l1i1 D.l1i2 e, y7.at fun o e => kp _ o D.l2z D.l2i1 D.l2i2 e, .inr ⟨p, true, op, a1, kp _ _ r1 r2 r3 yp, r1, r2, r3, r4⟩⟩
            fun c o hc e => kp c o (fun z => hc (by simp [z])) (fun z => hc (by simp [z])) (fun z => hc (by simp [z])) e
      done := fun s1 Q1 E1 ⟨y2, y4, y5, y6, y7, y8⟩ hQ => by
        have en : us[min us.size vs.size]? = none ∨ vs[min us.size vs.size]? = none := by
          rcases Nat.le_total us.size vs.size with z | z
          · exact .inl (Array.getElem?_eq_none (by rw [Nat.min_eq_left z]; exact Nat.le_refl _))
          · exact .inr (Array.getElem?_eq_none (by rw [Nat.min_eq_right z]; exact Nat.le_refl _))
        rcases y8 with ⟨y1, x, y, y3⟩ | ⟨p, f, op, y1, yp, r1, r2, r3, r4⟩
        · exact RZ.pyNext_zipT_end hA D y1 y2 y3 y4 y5 y6 y7 en fun g kp => hQ g s1.toks fun c o hc e => kp c o (fun z => hc (by simp [z])) (fun z => hc (by simp [z])) (fun z => hc (by simp [z])) (fun z => hc (by simp [z])) e
        · exact zth_pyEnd hA D y1 yp y2 y4 y5 y6 y7 en fun g kp => hQ g s1.toks fun c o hc e => kp c o (fun z => hc (by simp [z])) (fun z => hc (by simp [z])) (fun z => hc (by simp [z])) e }
end Fm
end

/-! ## part MB -/
section
set_option maxHeartbeats 4000000
namespace Fm
open PySem PySem.Spec L2

theorem kv_zip : ∀ {ks : List L2.Key} {ys : List V} {us : List Value}, Vals ys us → KV (ks.zip ys) (ks.zip us)
  | [], _, _, _ => .nil
  | _ :: _, _, _, .nil => .nil
  | k :: ks, _, _, .cons h t => .cons ⟨rfl, h⟩ (kv_zip t)
theorem key_at {P : Program} {w : World} {ks : List L2.Key} {us : List Value} {i : Nat} {u : Value} (r : Vals (ks.map kV) us) (e : us[i]? = some u) : ∃ k, ks[i]? = some k ∧ (mixKind P w).is k u = true := by
  have hl := r.length
  rw [List.length_map] at hl
  have hi : i < ks.length := by rw [hl]; exact (List.getElem?_eq_some_iff.mp e).1
  obtain ⟨u', e', ru⟩ := r.get (i := i) (x := kV ks[i]) (by rw [List.getElem?_map, List.getElem?_eq_getElem hi]; rfl)
  rw [e] at e'
  cases e'
  exact ⟨ks[i], List.getElem?_eq_getElem hi, kV_is ru⟩
def tDzip (K : PySem.W.Frag) (ta : TA) : TE := fun σ H Q => ta σ H fun vs H1 => ∃ a b ks ys, vs = [.ref a, .ref b] ∧ SqT K H1 a (List.map kV ks) ∧ SqT K H1 b ys ∧ ks.length = ys.length ∧
  ∀ p, H1 p = none → Q (.ref p) (upd H1 p (.dK (mergeK [] (ks.zip ys))))
section
variable {X : Cx} {pos : Pos}
theorem pe_dzip {ea eb : Expr} {ta : TA} {p p2 p3 : Pos} (hc : X.calm = true) (hd : Gl X "dict") (hmd : X.mg "dict" = none) (hz : Gl X "zip") (hmz : X.mg "zip" = none) (ha : PA X [ea, eb] ta)
    (hs : starEach [ea, eb] X.env = (false, PySem.eval ea X.env) :: starEach [eb] X.env) (hpl : (backTo p3 (starEach [eb] X.env)).any (·.1) = false) :
    PE X (.Call (.Name "dict" p) [.Call (.Name "zip" p2) [ea, eb] [] p3] [] pos) (tDzip X.K ta) := by
  refine ⟨fun pins s σ H Q I h => ?_⟩
  refine PyProof.Rows.Call_ (ld_blt I hd hmd PyProof.Rows.boot_dict (PyProof.Rows.callWith_type1 (PyProof.Rows.args_cons (PyProof.Rows.Call_ (ld_blt I hz hmz PyProof.Rows.boot_zip
    (PyProof.Rows.callWith_type1 (thn (ha.run p3 pins s σ H _ I h) fun us s1 ⟨vs, H1, I1, r1, a, b, ks, ys, ev, qa, qb, hl, q⟩ => ?_) hs hpl)))) rfl rfl))
  subst ev
  obtain ⟨u1, u2, rfl, r1, r2⟩ := vals2 r1
  cases r1
  cases r2
  obtain ⟨us, ru, pu, _⟩ := I1.tuple qa
  obtain ⟨vs, rv, pv, _⟩ := I1.tuple qb
  obtain ⟨oa, hoa, _⟩ := id pu
  obtain ⟨ob, hob, _⟩ := id pv
  have lu := ru.length
  have lv := rv.length
  rw [List.length_map] at lu
  refine RZ.call_zipT (show s1.heap.IsTuple a us.toArray from pu) (show s1.heap.IsTuple b vs.toArray from pv) fun h' z1 z2 z3 z4 z5 sz kp => PyProof.Rows.args_nil ?_
  have I2 : L2.Inv X pins σ H1 { s1 with heap := h' } := I1.kept (t' := s1.toks) kp
  have za : h'.IsTuple a us.toArray := Heap.IsTuple.at (show s1.heap.IsTuple a us.toArray from pu) fun o e => kp _ o e
  have zb : h'.IsTuple b vs.toArray := Heap.IsTuple.at (show s1.heap.IsTuple b vs.toArray from pv) fun o e => kp _ o e
  have hlz : (ks.zip ys).length = ks.length := by rw [List.length_zip, hl, Nat.min_self]
  have hz : ks.length ≤ sizeLine := by
    have := (I1.tuple qa)
    obtain ⟨us', ru', _, hz'⟩ := this
    rw [List.length_map] at hz'
    exact hz'
  have hmin : min us.toArray.size vs.toArray.size = ks.length := by
    rw [List.size_toArray, List.size_toArray, ← lu, ← lv, hl, Nat.min_self]
  refine call_dict_pairs (knd := mixKind X.prog X.w) (kvs := ks.zip vs) (argZipT _ _ _ _ _ a b (PySem.W.ktu_apart s1.heap.objs.size a b (Heap.lt_size hoa) (Heap.lt_size hob)) us.toArray vs.toArray) (I1.ok.hd hc)
    ⟨z1, z2, ⟨_, _, z3⟩, z4, z5, za, zb⟩ ⟨by rw [hmin, List.length_zip, ← lv, hl, Nat.min_self], fun i key v ⟨e1, e2⟩ => ?_⟩ (by rw [hmin]; exact hz) fun h2 tk dd kp2 => ?_
  · obtain ⟨k, ek, hk⟩ := key_at (P := X.prog) (w := X.w) ru (by simpa using e1)
    refine ⟨k, ?_, hk⟩
    rw [List.getElem?_zip_eq_some]
    exact ⟨ek, by simpa using e2⟩
  · have hlen : (mergeK [] (ks.zip ys)).length ≤ sizeLine := by
      have h1 := length_mergeK (ks.zip ys) []
      rw [List.length_nil, hlz] at h1
      omega
    have hle : s1.heap.objs.size ≤ h'.objs.size := by rw [sz]; exact Nat.le_add_right _ _
    have hsys : (h'.objs.size == sysModules) = false := beq_eq_false_iff_ne.mpr (Ne.symm (Nat.ne_of_lt (Nat.lt_of_lt_of_le I1.big hle)))
    have kpA : ∀ c o, s1.heap.get? c = some o → h2.get? c = some o := fun c o e => by
      have hlt := Heap.lt_size e
      refine kp2 c o (fun m => ?_) (kp c o e)
      have hm : c = s1.heap.objs.size + 4 ∨ c = s1.heap.objs.size + 3 ∨ c = s1.heap.objs.size ∨ c = s1.heap.objs.size + 1 := by simpa using m
      have hlt' : (c : Nat) < s1.heap.objs.size := hlt
      have hm' : s1.heap.objs.size ≤ c := by
        rcases hm with m | m | m | m <;> rw [m] <;> first | exact Nat.le_refl _ | exact Nat.le_add_right _ _
      exact absurd hlt' (Nat.not_lt.mpr hm')
    exact ⟨.ref h'.objs.size, _, I1.laid (t' := tk) (o := .dK (mergeK [] (ks.zip ys))) kpA hle (dk_new hlen hsys ((kv_zip rv).merge .nil) dd), rfl, q _ (I1.hok.fresh hle)⟩
end
section
variable {N : Nm} {T : Tab} {call : CallF} {W : WX} {X : Cx} {pos : Pos}
theorem reps_keys {G : Hp} : ∀ {ws : List V} {ks : List Fm.D}, Reps N X.w X.K G ws ks → ks.all keyOk = true → ∃ kk : List L2.Key, ks = kk.map kD ∧ ws = kk.map kV
  | _, _, .nil, _ => ⟨[], rfl, rfl⟩
  | _, _, .cons h t, e => by
    rw [List.all_cons, Bool.and_eq_true] at e
    obtain ⟨kk, rfl, rfl⟩ := reps_keys t e.2
    obtain ⟨k, rfl⟩ := kD_of e.1
    exact ⟨k :: kk, rfl, by rw [List.map_cons, kD_kV h]⟩
theorem repE_zip {G : Hp} : ∀ {kk : List L2.Key} {ws : List V} {ys : List Fm.D}, Reps N X.w X.K G ws ys → RepE N X.w X.K G (kk.zip ws) ((kk.map kD).zip ys)
  | [], _, _, _ => .nil
  | _ :: _, _, _, .nil => .nil
  | k :: kk, _, _, .cons h t => .cons h (repE_zip t)
theorem se_dzip {ea eb : Expr} {es : List E} {p p2 p3 : Pos} (hc : X.calm = true) (hd : Gl X "dict") (hmd : X.mg "dict" = none) (hz : Gl X "zip") (hmz : X.mg "zip" = none) (h1 : notStar ea = true) (h2 : notStar eb = true) (h : PA X [ea, eb] (tPs N T call W X es)) :
    PE X (.Call (.Name "dict" p) [.Call (.Name "zip" p2) [ea, eb] [] p3] [] pos) (tE N T call W X (.dzip es)) := by
  refine PE.imp (pe_dzip hc hd hmd hz hmz h (starEach_of h1) (back_of (by rw [List.all_cons, h2]; rfl))) fun σ H Q ⟨ρ, M, G, as, He, en, wf, h⟩ => ?_
  rw [eval] at h
  refine ⟨ρ, M, G, as, He, en, wf, h.bind fun xs M1 H1 G1 as1 e1 s1 w1 h vs rs => ?_⟩
  obtain ⟨d, ed, h⟩ := h.of
  unfold dzipD at ed
  split at ed
  · rename_i ks ys
    split at ed
    · rename_i hk
      cases ed
      rw [Bool.and_eq_true, Bool.and_eq_true, decide_eq_true_eq] at hk
      obtain ⟨x, y, rfl, rx, ry⟩ := paired_two rs
      obtain ⟨a, ws, rfl, sa, ra⟩ := rx.tup.tup_inv
      obtain ⟨b, us, rfl, sb, rb⟩ := ry.tup.tup_inv
      obtain ⟨kk, rfl, rfl⟩ := reps_keys ra hk.1.1
      have hl : kk.length = us.length := by
        have := hk.1.2
        rw [List.length_map] at this
        rw [this, rb.length]
      refine ⟨a, b, kk, us, rfl, SqT.sub sa w1.sub, SqT.sub sb w1.sub, hl, fun p np => ?_⟩
      refine h _ G1 as1 (s1.trans (Stp.new_ np w1.sub)) (w1.new_ np) (.ref p) ⟨p, rfl, ⟨_, upd_same, ?_⟩, w1.gnone np, w1.notin np, s1.fresh np⟩
      exact RepE.merge .nil (repE_zip rb)
    · cases ed
  · cases ed
theorem se_get2 {po pk pd : Expr} {o k d : E} {apos cpos : Pos} (hu : X.A.units + 1 < cLine) (ho : PE X po (tE N T call W X o)) (hk : PE X pk (tE N T call W X k)) (hd : PE X pd (tE N T call W X d)) (hb : attributeBase po "get" X.env (PySem.eval po X.env) = PySem.eval po X.env)
    (h1 : notStar pk = true) (h2 : notStar pd = true) (hline : (apos.endLine == cpos.line) = true) : PE X (.Call (.Attribute po "get" apos) [pk, pd] [] cpos) (tE N T call W X (.mt .get2 o [k, d])) := by
  have st := star2 (env := X.env) h1 h2
  refine PE.imp (pe_dget2 hu ho hk hd ⟨hb, by rw [st]; rfl, hline, by rw [st]; rfl⟩) fun σ H Q ⟨ρ, M, G, as, He, en, wf, h⟩ => ?_
  rw [eval] at h
  refine ⟨ρ, M, G, as, He, en, wf, h.bind fun v M1 H1 G1 as1 e1 s1 w1 h x vr => ?_⟩
  obtain ⟨dd, ed, h⟩ := h.of
  obtain ⟨ok, h⟩ := Good.ite h
  obtain ⟨kvs, rfl⟩ : ∃ kvs, dd = .dct kvs := by cases dd <;> first | (cases ok; done) | exact ⟨_, rfl⟩
  have rp := vr.peek ed
  obtain ⟨a, es, rfl, g1, g2⟩ := rp.dct w1.sub
  rw [evalDs, Res.bind_assoc] at h
  refine ⟨a, rfl, .inl ⟨es, .inl g1⟩, ρ, M1, G1, as1, He, en.stp s1, w1, (h.stp s1).bind fun kv M2 H2 G2 as2 e2 s2 w2 h y kr => ?_⟩
  rw [Res.bind_assoc] at h
  obtain ⟨kd, ek, h⟩ := h.of
  obtain ⟨G3, s3, w3, rk⟩ := kr.toD ek w2 s2
  have h := h.stp s3
  rw [evalDs, Res.bind_assoc, Res.bind_assoc] at h
  refine ⟨ρ, M2, G3, as2, He, (en.stp s1).stp s3, w3, h.bind fun dv M4 H4 G4 as4 e4 s4 w4 h z dr => ?_⟩
  rw [Res.bind_assoc] at h
  obtain ⟨xd, ex, h⟩ := h.of
  obtain ⟨G5, s5, w5, rd⟩ := dr.toD ex w4 s4
  have h := h.stp s5
  rw [evalDs, Res.bind_ok, Res.bind_ok, Res.bind_ok, mtD] at h
  cases hkk : keyOk kd with
  | false => rw [hkk] at h; exact h.elim
  | true =>
    rw [hkk, if_pos rfl, Res.of_some] at h
    obtain ⟨kk, rfl⟩ := kD_of hkk
    obtain rfl := kD_kV rk
    obtain ⟨a', es', ea, g3, g4⟩ := ((rp.stp s3).stp s5).dct w5.sub
    cases ea
    rcases g4.val (k := kk) with ⟨q1, q2⟩ | ⟨v', d', q1, q2, q3⟩
    · rw [q2] at h
      refine ⟨none, .inl ⟨es', kk, .inl g3, rfl, q1.symm⟩, h H4 G5 as4 Stp.refl w5 z ?_⟩
      exact rd
    · rw [q2] at h
      exact ⟨some v', .inl ⟨es', kk, .inl g3, rfl, q1.symm⟩, h H4 G5 as4 Stp.refl w5 v' q3⟩
end
end Fm
end

/-! ## part LO -/
section
set_option maxHeartbeats 4000000
namespace Fm
open PySem PySem.Spec L2

theorem PS.imp {X : Cx} {e : Stmt} {t t' : TS} (h : PS X e t) (i : ∀ D σ H, t' D σ H → t D σ H) : PS X e t' := ⟨fun pins s σ H D I q => h.run pins s σ H D I (i D σ H q)⟩
theorem PSs.imp {X : Cx} {e : List Stmt} {t t' : TS} (h : PSs X e t) (i : ∀ D σ H, t' D σ H → t D σ H) : PSs X e t' := ⟨fun pins s σ H D I q => h.run pins s σ H D I (i D σ H q)⟩

section
variable (N : Nm) (w : World) (K : PySem.W.Frag) (W : WX)
/-- where a statement's end leads -/
def Fin (D : Ends) (He : Hp) (σ : St) (H G : Hp) (as : List Addr) : Fl → Prop
  | .nx => D.nx σ H
  | .brk => D.bk σ H
  | .cnt => D.ct σ H
  | .ret v => ∀ x, VR N w K G as He H x v → D.rt x H
/-- a statement's outcome: what is wanted of it; He, as0, G0: at the def's entry -/
def GS (D : Ends) (as0 : List Addr) (G0 He : Hp) : RS → Prop
  | .ok f ρ M => ∀ σ H G as, Stp as0 G0 He as G H → EnvOk N w K G as He H σ ρ → Wf N w K G H as M → Fin N w K D He σ H G as f
  | .ex c fs ρ M => ∀ d σ H G as, Stp as0 G0 He as G H → EnvOk N w K G as He H σ ρ → Wf N w K G H as M → ExR N w K G H d fs → W (.ref (N.cls c)) d σ H
  | .bad => False
def tR (run : Env → Mem → RS) : TS := fun D σ H => ∃ ρ M G as as0 G0 He, Stp as0 G0 He as G H ∧ EnvOk N w K G as He H σ ρ ∧ Wf N w K G H as M ∧ GS N w K W D as0 G0 He (run ρ M)
end
section
variable {N : Nm} {w : World} {K : PySem.W.Frag} {W : WX} {D : Ends} {as0 as : List Addr} {G0 He G H : Hp} {σ : St} {ρ : Env} {M : Mem}
theorem GS.go {α : Type} {r : Res α} {k : α → Mem → RS} {Q1 : α → Mem → Hp → List Addr → Hp → Prop} (st : Stp as0 G0 He as G H) (en : EnvOk N w K G as He H σ ρ) (h : GS N w K W D as0 G0 He (r.go ρ k))
    (i : ∀ v M1 H1 G1 as1, r = .ok v M1 → Stp as G H as1 G1 H1 → Wf N w K G1 H1 as1 M1 → GS N w K W D as0 G0 He (k v M1) → Q1 v M1 G1 as1 H1) : Good N w K W σ as G H r Q1 := by
  cases r with
  | ok v M => exact fun H1 G1 as1 s f => i v M H1 G1 as1 rfl s f h
  | ex c fs M => exact fun d H1 G1 as1 s f e => h d σ H1 G1 as1 (st.trans s) (en.stp s) f e
  | bad => exact h.elim
theorem Stp.base {as1 : List Addr} {G1 H1 : Hp} (s : Stp as0 G0 He as1 G1 H1) : Stp as0 G1 He as1 G1 H1 := ⟨Sub.refl, s.pre, s.keep, fun _ _ _ h => h, s.new, s.live⟩
theorem Stp.unbase {as1 as2 : List Addr} {G1 H1 G2 H2 : Hp} (s : Stp as0 G0 He as1 G1 H1) (t : Stp as0 G1 He as2 G2 H2) : Stp as0 G0 He as2 G2 H2 := ⟨s.ext.trans t.ext, t.pre, t.keep, fun a o h1 h2 => t.free a o h1 (s.free a o h1 h2), t.new, t.live⟩
theorem GS.base {as1 : List Addr} {G1 H1 : Hp} {r : RS} (h : GS N w K W D as0 G0 He r) (s : Stp as0 G0 He as1 G1 H1) : GS N w K W D as0 G1 He r := by
  cases r with
  | ok f ρ M =>
    cases f with
    | nx => exact fun σ H G as t => h σ H G as (s.unbase t)
    | brk => exact fun σ H G as t => h σ H G as (s.unbase t)
    | cnt => exact fun σ H G as t => h σ H G as (s.unbase t)
    | ret v => exact fun σ H G as t => h σ H G as (s.unbase t)
  | ex c fs ρ M => exact fun d σ H G as t => h d σ H G as (s.unbase t)
  | bad => exact h
theorem GS.of {α : Type} {o : Option α} {k : α → Mem → RS} (h : GS N w K W D as0 G0 He ((Res.of o M).go ρ k)) : ∃ a, o = some a ∧ GS N w K W D as0 G0 He (k a M) := by
  cases o with
  | none => exact h.elim
  | some a => exact ⟨a, rfl, h⟩
theorem GS.nx {r : RS} {k : Env → Mem → RS} (h : GS N w K W D as0 G0 He (r.nx k)) : GS N w K W { D with nx := tR N w K W k D } as0 G0 He r := by
  cases r with
  | ok f ρ M =>
    cases f with
    | nx => exact fun σ H G as s en wf => ⟨ρ, M, G, as, as0, G0, He, s, en, wf, h⟩
    | brk => exact fun σ H G as s en wf => h σ H G as s en wf
    | cnt => exact fun σ H G as s en wf => h σ H G as s en wf
    | ret v => exact fun σ H G as s en wf => h σ H G as s en wf
  | ex c fs ρ M => exact h
  | bad => exact h
/-- a turn of a loop -/
theorem GS.turn {r : RS} {k : Env → Mem → RS} {Nx : St → Hp → Prop} (h : GS N w K W D as0 G0 He (r.turn k)) (i : ∀ ρ M σ H G as, Stp as0 G0 He as G H → EnvOk N w K G as He H σ ρ → Wf N w K G H as M → GS N w K W D as0 G0 He (k ρ M) → Nx σ H) :
    GS N w K W { D with nx := Nx, ct := Nx, bk := D.nx } as0 G0 He r := by
  cases r with
  | ok f ρ M =>
    cases f with
    | nx => exact fun σ H G as s en wf => i ρ M σ H G as s en wf h
    | brk => exact fun σ H G as s en wf => h σ H G as s en wf
    | cnt => exact fun σ H G as s en wf => i ρ M σ H G as s en wf h
    | ret v => exact fun σ H G as s en wf => h σ H G as s en wf
  | ex c fs ρ M => exact h
  | bad => exact h
end

section
variable (N : Nm) (T : Tab) (call : CallF) (W : WX) (X : Cx)
abbrev tS (s : S) : TS := tR N X.w X.K W (exec T call s)
abbrev tSs (ss : List S) : TS := tR N X.w X.K W (execs T call ss)
end
section
variable {N : Nm} {T : Tab} {call : CallF} {W : WX} {X : Cx} {pos : Pos}
theorem ss_nil : PSs X [] (tSs N T call W X []) := PSs.imp pss_nil fun D σ H ⟨ρ, M, G, as, as0, G0, He, s, en, wf, h⟩ => h σ H G as s en wf
theorem ss_cons {p : Stmt} {ps : List Stmt} {s : S} {ss : List S} (h : PS X p (tS N T call W X s)) (hs : PSs X ps (tSs N T call W X ss)) : PSs X (p :: ps) (tSs N T call W X (s :: ss)) := by
  refine PSs.imp (pss_cons h hs) fun D σ H ⟨ρ, M, G, as, as0, G0, He, s, en, wf, h⟩ => ?_
  rw [execs] at h
  exact ⟨ρ, M, G, as, as0, G0, He, s, en, wf, h.nx⟩
/-- a statement of ours with nothing behind it in the program -/
theorem ss_ghost {ps : List Stmt} {s : S} {ss : List S} (hs : PSs X ps (tSs N T call W X ss)) (g : ∀ D σ H, tSs N T call W X (s :: ss) D σ H → tSs N T call W X ss D σ H) : PSs X ps (tSs N T call W X (s :: ss)) := PSs.imp hs g
theorem ss_kill {ps : List Stmt} {is : List Nat} {ss : List S} (hs : PSs X ps (tSs N T call W X ss)) : PSs X ps (tSs N T call W X (.kill is :: ss)) := by
  refine PSs.imp hs fun D σ H ⟨ρ, M, G, as, as0, G0, He, s, en, wf, h⟩ => ?_
  rw [execs, exec, RS.nx_nx] at h
  exact ⟨_, M, G, as, as0, G0, He, s, en.forgets is, wf, h⟩
theorem EnvOk.frz {w : World} {K : PySem.W.Frag} {as : List Addr} {G He H : Hp} {σ : St} {ρ : Env} {i : Nat} {x : D} {a : Addr} {o : HO} (en : EnvOk N w K G as He H σ ρ) (e : ρ[i]? = some (some (.o x))) (es : σ[i]? = some (some (.ref a))) (h3 : G a = none) (r : Rep N w K (upd G a o) (.ref a) x) :
    EnvOk N w K (upd G a o) as He H σ (ρ.set i (some (.d x))) where
  len := by rw [List.length_set]; exact en.len
  val := fun j y ej => by
    have hl : i < ρ.length := (List.getElem?_eq_some_iff.mp e).1
    by_cases hj : i = j
    · subst hj
      rw [List.getElem?_set_self hl] at ej
      cases ej
      exact ⟨_, es, r⟩
    · rw [List.getElem?_set_ne hj] at ej
      obtain ⟨v, h1, h2⟩ := en.val j y ej
      refine ⟨v, h1, ?_⟩
      cases y with
      | d y => exact Rep.sub (upd_sub h3) h2
      | r n => exact h2
      | o y =>
        obtain ⟨b, rfl, k2, k3, k4, k5⟩ := h2
        have hb : b ≠ a := fun z => hj (en.dis i j x y a e ej es (z ▸ h1))
        exact ⟨b, rfl, k2.stp (fun _ z => z) (upd_sub h3), by rw [upd_ne hb]; exact k3, k4, k5⟩
      | b y => exact h2
  dis := fun j k y z b e1 e2 e3 e4 => by
    have hl : i < ρ.length := (List.getElem?_eq_some_iff.mp e).1
    have q : ∀ (j : Nat) (y : Fm.D), (ρ.set i (some (Val.d x)))[j]? = some (some (.o y)) → i ≠ j := fun j y ej hj => by
      subst hj
      rw [List.getElem?_set_self hl] at ej
      cases ej
    rw [List.getElem?_set_ne (q _ _ e1)] at e1
    rw [List.getElem?_set_ne (q _ _ e2)] at e2
    exact en.dis j k y z b e1 e2 e3 e4
  live := en.live
/-- an own thing of a slot is changed -/
theorem EnvOk.own {w : World} {K : PySem.W.Frag} {as : List Addr} {G He H : Hp} {σ : St} {ρ : Env} {i : Nat} {x x' : D} {a : Addr} {o : HO} (en : EnvOk N w K G as He H σ ρ) (e : ρ[i]? = some (some (.o x))) (es : σ[i]? = some (some (.ref a))) (t : Top N w K G (upd H a o) a x') :
    EnvOk N w K G as He (upd H a o) σ (ρ.set i (some (.o x'))) where
  len := by rw [List.length_set]; exact en.len
  val := fun j y ej => by
    have hl : i < ρ.length := (List.getElem?_eq_some_iff.mp e).1
    by_cases hj : i = j
    · subst hj
      rw [List.getElem?_set_self hl] at ej
      cases ej
      obtain ⟨v, h1, h2⟩ := en.val i _ e
      rw [es] at h1; cases h1
      obtain ⟨b, hb, k2, k3, k4, k5⟩ := h2
      cases hb
      exact ⟨_, es, a, rfl, t, k3, k4, k5⟩
    · rw [List.getElem?_set_ne hj] at ej
      obtain ⟨v, h1, h2⟩ := en.val j y ej
      refine ⟨v, h1, ?_⟩
      cases y with
      | d y => exact h2
      | r n => exact h2
      | o y =>
        obtain ⟨b, rfl, k2, k3, k4, k5⟩ := h2
        have hb : b ≠ a := fun z => hj (en.dis i j x y a e ej es (z ▸ h1))
        exact ⟨b, rfl, k2.stp (fun _ z => by rw [upd_ne hb]; exact z) Sub.refl, k3, k4, k5⟩
      | b y => exact h2
  dis := fun j k y z b e1 e2 e3 e4 => by
    have hl : i < ρ.length := (List.getElem?_eq_some_iff.mp e).1
    have q : ∀ (j : Nat) (y : Fm.D), (ρ.set i (some (Val.o x')))[j]? = some (some (.o y)) → ∃ y' : Fm.D, ρ[j]? = some (some (.o y')) := fun j y ej => by
      by_cases hj : i = j
      · subst hj; exact ⟨x, e⟩
      · rw [List.getElem?_set_ne hj] at ej; exact ⟨y, ej⟩
    obtain ⟨y', e1⟩ := q _ _ e1
    obtain ⟨z', e2⟩ := q _ _ e2
    exact en.dis j k y' z' b e1 e2 e3 e4
  live := fun b u h => by
    obtain ⟨u', h'⟩ := en.live b u h
    by_cases hb : b = a
    · subst hb; exact ⟨o, upd_same⟩
    · exact ⟨u', by rw [upd_ne hb]; exact h'⟩
/-- a new own thing into a slot -/
theorem EnvOk.setO {w : World} {K : PySem.W.Frag} {as : List Addr} {G He H : Hp} {σ : St} {ρ : Env} (en : EnvOk N w K G as He H σ ρ) (i : Nat) {x : D} {a : Addr} (t : Top N w K G H a x) (h3 : G a = none) (h4 : a ∉ as) (h5 : He a = none) (nw : ∀ (j : Nat) (y : Fm.D), ρ[j]? = some (some (.o y)) → σ[j]? ≠ some (some (.ref a))) :
    EnvOk N w K G as He H (σ.set i (some (.ref a))) (ρ.set i (some (.o x))) where
  len := by rw [List.length_set, List.length_set]; exact en.len
  val := fun j y ej => by
    by_cases hj : i = j
    · subst hj
      have hl : i < ρ.length := by
        have := (List.getElem?_eq_some_iff.mp ej).1
        rwa [List.length_set] at this
      rw [List.getElem?_set_self hl] at ej
      cases ej
      exact ⟨_, List.getElem?_set_self (by rw [en.len]; exact hl), a, rfl, t, h3, h4, h5⟩
    · rw [List.getElem?_set_ne hj] at ej ⊢
      exact en.val j y ej
  dis := fun j k y z b e1 e2 e3 e4 => by
    have q : ∀ (j : Nat) (y : Fm.D) (b : Addr), (ρ.set i (some (Val.o x)))[j]? = some (some (.o y)) → (σ.set i (some (.ref a)))[j]? = some (some (.ref b)) → (i = j ∧ b = a) ∨ (i ≠ j ∧ ρ[j]? = some (some (.o y)) ∧ σ[j]? = some (some (.ref b))) := fun j y b ej es => by
      by_cases hj : i = j
      · subst hj
        have hl : i < ρ.length := by
          have := (List.getElem?_eq_some_iff.mp ej).1
          rwa [List.length_set] at this
        rw [List.getElem?_set_self (by rw [en.len]; exact hl)] at es
        cases es
        exact .inl ⟨rfl, rfl⟩
      · rw [List.getElem?_set_ne hj] at ej es
        exact .inr ⟨hj, ej, es⟩
    rcases q _ _ _ e1 e3 with ⟨rfl, rfl⟩ | ⟨m1, m2, m3⟩
    · rcases q _ _ _ e2 e4 with ⟨rfl, _⟩ | ⟨k1, k2, k3⟩
      · rfl
      · exact absurd k3 (nw _ _ k2)
    · rcases q _ _ _ e2 e4 with ⟨rfl, rfl⟩ | ⟨k1, k2, k3⟩
      · exact absurd m3 (nw _ _ m2)
      · exact en.dis j k y z b m2 k2 m3 k3
  live := en.live
theorem ss_frz {ps : List Stmt} {i : Nat} {ss : List S} (hs : PSs X ps (tSs N T call W X ss)) : PSs X ps (tSs N T call W X (.frz i :: ss)) := by
  refine PSs.imp hs fun D σ H ⟨ρ, M, G, as, as0, G0, He, s, en, wf, h⟩ => ?_
  rw [execs, exec] at h
  split at h
  · rename_i x e
    rw [RS.nx_nx] at h
    obtain ⟨y, h1, a, rfl, h2, h3, h4, h5⟩ := en.val i _ e
    obtain ⟨o, eo, r⟩ := h2.freeze h3
    exact ⟨_, M, upd G a o, as, as0, G0, He, s.freeze h3 h5, en.frz e h1 h3 r, wf.freeze eo h3 h4, h⟩
  · exact h.elim

/-! ### simple statements -/
theorem ss_pas : PS X (.Pass pos) (tS N T call W X .pas) := PS.imp ps_pass fun D σ H ⟨ρ, M, G, as, as0, G0, He, s, en, wf, h⟩ => by
  rw [exec] at h
  exact h σ H G as s en wf
theorem ss_doc {x j pos pos'} : PS X (.Expr (.Constant (.str x) j pos) pos') (tS N T call W X .pas) := PS.imp ps_doc fun D σ H ⟨ρ, M, G, as, as0, G0, He, s, en, wf, h⟩ => by
  rw [exec] at h
  exact h σ H G as s en wf
theorem ss_brk : PS X (.Break pos) (tS N T call W X .brk) := PS.imp ps_break fun D σ H ⟨ρ, M, G, as, as0, G0, He, s, en, wf, h⟩ => by
  rw [exec] at h
  exact h σ H G as s en wf
theorem ss_cnt : PS X (.Continue pos) (tS N T call W X .cnt) := PS.imp ps_continue fun D σ H ⟨ρ, M, G, as, as0, G0, He, s, en, wf, h⟩ => by
  rw [exec] at h
  exact h σ H G as s en wf
theorem ss_never {p : Stmt} : PS X p (tS N T call W X .never) := PS.imp ps_never fun D σ H ⟨ρ, M, G, as, as0, G0, He, s, en, wf, h⟩ => by
  rw [exec] at h
  exact h.elim
theorem ss_ret {pe : Expr} {e : E} (h : PE X pe (tE N T call W X e)) : PS X (.Return (some pe) pos) (tS N T call W X (.ret e)) := by
  refine PS.imp (ps_ret h) fun D σ H ⟨ρ, M, G, as, as0, G0, He, s, en, wf, h⟩ => ?_
  rw [exec] at h
  exact ⟨ρ, M, G, as, He, en, wf, h.go s en fun v M1 H1 G1 as1 e1 s1 w1 h x vr => h σ H1 G1 as1 (s.trans s1) (en.stp s1) w1 x (vr.back s)⟩
theorem ss_retmv {i : Nat} {x : Str} {p : Pos} (hN : X.N[i]? = some x) (hv : Vis X.env.scope x) (hd : (x == ("__debug__" : Str)) = false) (hcd : (x == ("__classdict__" : Str)) = false) : PS X (.Return (some (.Name x p)) pos) (tS N T call W X (.retmv i)) := by
  refine PS.imp (ps_ret (pe_var hN hv hd hcd)) fun D σ H ⟨ρ, M, G, as, as0, G0, He, s, en, wf, h⟩ => ?_
  rw [exec] at h
  split at h
  · rename_i x e
    obtain ⟨y, h1, h2⟩ := en.val i _ e
    exact ⟨y, h1, h σ H G as s en wf y h2⟩
  · exact h.elim
theorem ss_retN : PS X (.Return none pos) (tS N T call W X (.ret (.c .non))) := by
  refine PS.imp ps_retN fun D σ H ⟨ρ, M, G, as, as0, G0, He, s, en, wf, h⟩ => ?_
  rw [exec, eval, Res.go_ok] at h
  exact h σ H G as s en wf .non Rep.non
theorem ss_expr {pe : Expr} {e : E} (h : PE X pe (tE N T call W X e)) (hs : swapsWith pe none pos.line X.env = pure false) : PS X (.Expr pe pos) (tS N T call W X (.expr e)) := by
  refine PS.imp (ps_expr h hs) fun D σ H ⟨ρ, M, G, as, as0, G0, He, s, en, wf, h⟩ => ?_
  rw [exec] at h
  exact ⟨ρ, M, G, as, He, en, wf, h.go s en fun v M1 H1 G1 as1 e1 s1 w1 h x vr => h σ H1 G1 as1 (s.trans s1) (en.stp s1) w1⟩
theorem ss_if {pc : Expr} {pa pb : List Stmt} {c : E} {a b : List S} (hc : PT X pc (tT N T call W X c)) (ha : PSs X pa (tSs N T call W X a)) (hb : PSs X pb (tSs N T call W X b)) : PS X (.If pc pa pb pos) (tS N T call W X (.ifs c a b)) := by
  refine PS.imp (ps_if hc ha hb) fun D σ H ⟨ρ, M, G, as, as0, G0, He, s, en, wf, h⟩ => ?_
  rw [exec] at h
  refine ⟨ρ, M, G, as, He, en, wf, h.go s en fun v M1 H1 G1 as1 e1 s1 w1 h => ?_⟩
  obtain ⟨t, et, h⟩ := h.of
  refine ⟨t, et, ?_⟩
  cases t with
  | true => exact ⟨ρ, M1, G1, as1, as0, G0, He, s.trans s1, en.stp s1, w1, h⟩
  | false => exact ⟨ρ, M1, G1, as1, as0, G0, He, s.trans s1, en.stp s1, w1, h⟩
theorem ss_while {pc : Expr} {pb : List Stmt} {c : E} {b : List S} (hp : PassesOwn (model X.prog X.w) X.A X.env X.xe) (hc : PT X pc (tT N T call W X c)) (hb : PSs X pb (tSs N T call W X b)) : PS X (.While pc pb [] pos) (tS N T call W X (.whiles c b)) := by
  refine PS.imp (ps_while hp hc hb) fun D σ H ⟨ρ, M, G, as, as0, G0, He, s, en, wf, h⟩ => ?_
  rw [exec] at h
  generalize WF = fuel at h
  refine ⟨fun m σ H => ∃ ρ M G as, Stp as0 G0 He as G H ∧ EnvOk N X.w X.K G as He H σ ρ ∧ Wf N X.w X.K G H as M ∧ GS N X.w X.K W D as0 G0 He (whileGo (fun ρ M => (eval T call c ρ M).bind fun v M => Res.of v.truth M) (fun ρ M => execs T call b ρ M) m ρ M), ⟨fuel, ρ, M, G, as, s, en, wf, h⟩, ?_⟩
  rintro m σ H ⟨ρ, M, G, as, s, en, wf, h⟩
  cases m with
  | zero => exact h.elim
  | succ m =>
    rw [whileGo, Res.go_bind] at h
    refine ⟨ρ, M, G, as, He, en, wf, h.go s en fun v M1 H1 G1 as1 e1 s1 w1 h => ?_⟩
    obtain ⟨t, et, h⟩ := h.of
    refine ⟨t, et, ?_⟩
    cases t with
    | true =>
      rw [if_pos rfl] at h ⊢
      refine ⟨_, fun σ' H' z => ⟨m, Nat.lt_succ_self m, z⟩, ρ, M1, G1, as1, as0, G0, He, s.trans s1, en.stp s1, w1, ?_⟩
      exact h.turn fun ρ M σ H G as s en wf h => ⟨ρ, M, G, as, s, en, wf, h⟩
    | false =>
      rw [if_neg Bool.false_ne_true] at h ⊢
      exact h σ H1 G1 as1 (s.trans s1) (en.stp s1) w1
theorem ss_for {ptg pit : Expr} {pb : List Stmt} {tg : Tg} {k : Ik} {args : List E} {b : List S} (hp : PassesOwn (model X.prog X.w) X.A X.env X.xe) (hc : X.calm = true) (hi : PI X ptg pit (tIS N T call W X k args)) (hg : PG X ptg (tG N X.w X.K tg)) (hb : PSs X pb (tSs N T call W X b)) (hs : notSetI pit = true) :
    PS X (.For ptg pit pb [] pos) (tS N T call W X (.fors tg k args b)) := by
  refine PS.imp (ps_for hp hc hi hg hb (folded_of hs)) fun D σ H ⟨ρ, M, G, as, as0, G0, He, s, en, wf, h⟩ => ?_
  rw [exec, ← Res.go_bind] at h
  refine ⟨ρ, M, G, as, He, en, wf, h.go s en fun its M1 H1 G1 as1 e1 s1 w1 h J wk => ?_⟩
  obtain ⟨Y, hw, hy⟩ := wk
  have h := h.base (s.trans s1)
  refine for_it hw (fun i σ H => ∃ ρ M G as, Stp as0 G1 He as G H ∧ EnvOk N X.w X.K G as He H σ ρ ∧ Wf N X.w X.K G H as M ∧ GS N X.w X.K W D as0 G1 He (forGo tg.bind (fun ρ M => execs T call b ρ M) (its.drop i) ρ M)) ?_ ?_ ?_ ?_
  · exact ⟨ρ, M1, G1, as1, (s.trans s1).base, en.stp s1, w1, h⟩
  · rintro i σ H _ ⟨ρ, M, G, as, s, en, wf, h⟩
    exact s.ext.trans wf.sub
  · rintro i x σ H H' hi ⟨ρ, M, G, as, s, en, wf, h⟩ y
    obtain ⟨d, ed, yd⟩ := hy i H x H' (s.ext.trans wf.sub) hi y
    obtain ⟨G3, s3, w3, r3, k3, g3⟩ := yd_rep yd wf s.ext
    have hdrop : its.drop i = d :: its.drop (i + 1) := by
      obtain ⟨hl, e5⟩ := List.getElem?_eq_some_iff.mp ed
      rw [← e5, List.drop_eq_getElem_cons hl]
    rw [hdrop, forGo] at h
    obtain ⟨ρ2, eb, h⟩ := h.of
    refine ⟨d, ρ, ρ2, G3, as, He, _, en.stp s3, w3.sub, r3, eb, fun σ2 en2 hw2 => ?_⟩
    exact ⟨ρ2, M, G3, as, as0, G1, He, s.trans s3, en2, w3, h.turn fun ρ M σ H G as s en wf h => ⟨ρ, M, G, as, s, en, wf, h⟩⟩
  · rintro σ H ⟨ρ, M, G, as, s, en, wf, h⟩
    rw [List.drop_length, forGo] at h
    exact h σ H G as s en wf

/-! ### stores -/
theorem asg_v {e : E} {te : TE} {i : Nat} (ht : ∀ σ H Q, tE N T call W X e σ H Q → te σ H Q) : ∀ D σ H, tS N T call W X (.asg (.v i) e) D σ H → tAsg te (gName i) D σ H := fun D σ H ⟨ρ, M, G, as, as0, G0, He, s, en, wf, h⟩ => by
  rw [exec] at h
  refine ht _ _ _ ⟨ρ, M, G, as, He, en, wf, h.go s en fun v M1 H1 G1 as1 e1 s1 w1 h x vr => ?_⟩
  obtain ⟨y, ey, h⟩ := h.of
  obtain ⟨G2, s2, w2, st⟩ := vr.toArg ey w1 s1
  exact h _ H1 G2 as1 (s.trans s2) ((en.stp s2).setR i st) w2
theorem own_v {e : E} {te : TE} {i : Nat} (ht : ∀ σ H Q, tE N T call W X e σ H Q → te σ H Q) : ∀ D σ H, tS N T call W X (.own i e) D σ H → tAsg te (gName i) D σ H := fun D σ H ⟨ρ, M, G, as, as0, G0, He, s, en, wf, h⟩ => by
  rw [exec] at h
  refine ht _ _ _ ⟨ρ, M, G, as, He, en, wf, h.go s en fun v M1 H1 G1 as1 e1 s1 w1 h x vr => ?_⟩
  cases v with
  | o y =>
    obtain ⟨a, rfl, h2, h3, h4, h5⟩ := vr
    refine h _ H1 G1 as1 (s.trans s1) ((en.stp s1).setO i h2 h3 h4 (s.fresh h5) fun j y ej es => ?_) w1
    obtain ⟨v, h1, b, rfl, k2, _⟩ := en.val j _ ej
    rw [es] at h1; cases h1
    obtain ⟨o, eo⟩ := k2.some
    rw [eo] at h5; cases h5
  | _ => exact h.elim
theorem ss_asg {pe : Expr} {e : E} {i : Nat} {x : Str} {p : Pos} (hN : X.N.Nodup) (hi : X.N[i]? = some x) (hx : Loc X.env.scope x) (hf : X.fn x = true ∨ X.env.scope.names.lookup x = some .local) (h : PE X pe (tE N T call W X e)) (hs : swapsWith pe (some (.Name x p)) pos.line X.env = pure false) :
    PS X (.Assign [.Name x p] pe pos) (tS N T call W X (.asg (.v i) e)) := PS.imp (ps_set hN hi hx h hs hf) (asg_v fun _ _ _ h => h)
theorem ss_own {pe : Expr} {e : E} {i : Nat} {x : Str} {p : Pos} (hN : X.N.Nodup) (hi : X.N[i]? = some x) (hx : Loc X.env.scope x) (hf : X.fn x = true ∨ X.env.scope.names.lookup x = some .local) (h : PE X pe (tE N T call W X e)) (hs : swapsWith pe (some (.Name x p)) pos.line X.env = pure false) :
    PS X (.Assign [.Name x p] pe pos) (tS N T call W X (.own i e)) := PS.imp (ps_set hN hi hx h hs hf) (own_v fun _ _ _ h => h)
theorem ss_asgLc {i0 : Nat} {y : Str} {py : Pos} {elt tg iter : Expr} {pifs : List Expr} {scope : Scope} {ownn : List (Str × Nat)} {e : E} {t : Tg} {k : Ik} {args ifs : List E} {own : List Nat} {pos spos : Pos} (hc : X.calm = true) (hN : X.N.Nodup) (hy : X.N[i0]? = some y) (hyl : X.env.scope.names.lookup y = some .local)
    (hsw : swapsWith (.ListComp elt [⟨tg, iter, pifs, 0⟩] scope pos) (some (.Name y py)) spos.line X.env = pure true)
    (hi : PI X tg iter (tIC N T call W X k args)) (ok : BlkOk X.N X.env.scope scope ownn)
    (ho : ownn.map (·.2) = own) (hsl : ∀ i ∈ t.slots, i ∈ own)
    (hg : ∀ (s : Shared) (H : Hp) (C : Addr) (cl : List (Str × Addr)) (fp : List Addr), PG (X.blk s H scope (compEnvC scope cl C X.env) fp) tg (tG N X.w X.K t))
    (ht : ∀ (s : Shared) (H : Hp) (C : Addr) (cl : List (Str × Addr)) (fp : List Addr), PTs (X.blk s H scope (compEnvC scope cl C X.env) fp) pifs (tTs N T call W0 X ifs))
    (he : ∀ (s : Shared) (H : Hp) (C : Addr) (cl : List (Str × Addr)) (fp : List Addr), PE (X.blk s H scope (compEnvC scope cl C X.env) fp) elt (tE N T call W0 X e)) (hs : notSetI iter = true) :
    PS X (.Assign [.Name y py] (.ListComp elt [⟨tg, iter, pifs, 0⟩] scope pos) spos) (tS N T call W X (.asg (.v i0) (.lc e t k args ifs own))) := by
  subst ho
  exact PS.imp (ps_setLc hc hN hy hyl hsw hi ok hg ht he (folded_of hs)) (asg_v fun _ _ _ h => lc_imp hsl h)
theorem ss_ownLc {i0 : Nat} {y : Str} {py : Pos} {elt tg iter : Expr} {pifs : List Expr} {scope : Scope} {ownn : List (Str × Nat)} {e : E} {t : Tg} {k : Ik} {args ifs : List E} {own : List Nat} {pos spos : Pos} (hc : X.calm = true) (hN : X.N.Nodup) (hy : X.N[i0]? = some y) (hyl : X.env.scope.names.lookup y = some .local)
    (hsw : swapsWith (.ListComp elt [⟨tg, iter, pifs, 0⟩] scope pos) (some (.Name y py)) spos.line X.env = pure true)
    (hi : PI X tg iter (tIC N T call W X k args)) (ok : BlkOk X.N X.env.scope scope ownn)
    (ho : ownn.map (·.2) = own) (hsl : ∀ i ∈ t.slots, i ∈ own)
    (hg : ∀ (s : Shared) (H : Hp) (C : Addr) (cl : List (Str × Addr)) (fp : List Addr), PG (X.blk s H scope (compEnvC scope cl C X.env) fp) tg (tG N X.w X.K t))
    (ht : ∀ (s : Shared) (H : Hp) (C : Addr) (cl : List (Str × Addr)) (fp : List Addr), PTs (X.blk s H scope (compEnvC scope cl C X.env) fp) pifs (tTs N T call W0 X ifs))
    (he : ∀ (s : Shared) (H : Hp) (C : Addr) (cl : List (Str × Addr)) (fp : List Addr), PE (X.blk s H scope (compEnvC scope cl C X.env) fp) elt (tE N T call W0 X e)) (hs : notSetI iter = true) :
    PS X (.Assign [.Name y py] (.ListComp elt [⟨tg, iter, pifs, 0⟩] scope pos) spos) (tS N T call W X (.own i0 (.lc e t k args ifs own))) := by
  subst ho
  exact PS.imp (ps_setLc hc hN hy hyl hsw hi ok hg ht he (folded_of hs)) (own_v fun _ _ _ h => lc_imp hsl h)
theorem ss_asgLc2 {i0 : Nat} {y : Str} {py : Pos} {elt tg iter tg1 iter1 : Expr} {scope : Scope} {ownn : List (Str × Nat)} {e : E} {t t2 : Tg} {k k2 : Ik} {args args2 : List E} {own own2 : List Nat} {pos spos : Pos} (hc : X.calm = true) (hN : X.N.Nodup) (hy : X.N[i0]? = some y) (hyl : X.env.scope.names.lookup y = some .local)
    (hsw : swapsWith (.ListComp elt [⟨tg, iter, [], 0⟩, ⟨tg1, iter1, [], 0⟩] scope pos) (some (.Name y py)) spos.line X.env = pure true)
    (hi : PI X tg iter (tIC N T call W X k args)) (ok : BlkOk X.N X.env.scope scope ownn)
    (ho : ownn.map (·.2) = own) (hv : ∀ i ∈ own2, i ∈ own) (hsl : ∀ i ∈ t.slots, i ∈ own) (hsl2 : ∀ i ∈ t2.slots, i ∈ own2)
    (hg : ∀ (s : Shared) (H : Hp) (C : Addr) (cl : List (Str × Addr)) (fp : List Addr), PG (X.blk s H scope (compEnvC scope cl C X.env) fp) tg (tG N X.w X.K t))
    (hi1 : ∀ (s : Shared) (H : Hp) (C : Addr) (cl : List (Str × Addr)) (fp : List Addr), PI (X.blk s H scope (compEnvC scope cl C X.env) fp) tg1 iter1 (tIS N T call W0 X k2 args2))
    (hg1 : ∀ (s : Shared) (H : Hp) (C : Addr) (cl : List (Str × Addr)) (fp : List Addr), PG (X.blk s H scope (compEnvC scope cl C X.env) fp) tg1 (tG N X.w X.K t2))
    (he : ∀ (s : Shared) (H : Hp) (C : Addr) (cl : List (Str × Addr)) (fp : List Addr), PE (X.blk s H scope (compEnvC scope cl C X.env) fp) elt (tE N T call W0 X e)) (hs : notSetI iter = true) (hs1 : notSetI iter1 = true) :
    PS X (.Assign [.Name y py] (.ListComp elt [⟨tg, iter, [], 0⟩, ⟨tg1, iter1, [], 0⟩] scope pos) spos) (tS N T call W X (.asg (.v i0) (.lc2 e t k args t2 k2 args2 own own2))) := by
  subst ho
  exact PS.imp (ps_setLc2 hc hN hy hyl hsw hi ok hv hg (fun _ _ _ _ _ => pts_nil) hi1 hg1 (fun _ _ _ _ _ => pts_nil) he (folded_of hs) (fun _ => folded_of hs1)) (asg_v fun _ _ _ h => lc2_imp hsl hsl2 h)
theorem ss_ownLc2 {i0 : Nat} {y : Str} {py : Pos} {elt tg iter tg1 iter1 : Expr} {scope : Scope} {ownn : List (Str × Nat)} {e : E} {t t2 : Tg} {k k2 : Ik} {args args2 : List E} {own own2 : List Nat} {pos spos : Pos} (hc : X.calm = true) (hN : X.N.Nodup) (hy : X.N[i0]? = some y) (hyl : X.env.scope.names.lookup y = some .local)
    (hsw : swapsWith (.ListComp elt [⟨tg, iter, [], 0⟩, ⟨tg1, iter1, [], 0⟩] scope pos) (some (.Name y py)) spos.line X.env = pure true)
    (hi : PI X tg iter (tIC N T call W X k args)) (ok : BlkOk X.N X.env.scope scope ownn)
    (ho : ownn.map (·.2) = own) (hv : ∀ i ∈ own2, i ∈ own) (hsl : ∀ i ∈ t.slots, i ∈ own) (hsl2 : ∀ i ∈ t2.slots, i ∈ own2)
    (hg : ∀ (s : Shared) (H : Hp) (C : Addr) (cl : List (Str × Addr)) (fp : List Addr), PG (X.blk s H scope (compEnvC scope cl C X.env) fp) tg (tG N X.w X.K t))
    (hi1 : ∀ (s : Shared) (H : Hp) (C : Addr) (cl : List (Str × Addr)) (fp : List Addr), PI (X.blk s H scope (compEnvC scope cl C X.env) fp) tg1 iter1 (tIS N T call W0 X k2 args2))
    (hg1 : ∀ (s : Shared) (H : Hp) (C : Addr) (cl : List (Str × Addr)) (fp : List Addr), PG (X.blk s H scope (compEnvC scope cl C X.env) fp) tg1 (tG N X.w X.K t2))
    (he : ∀ (s : Shared) (H : Hp) (C : Addr) (cl : List (Str × Addr)) (fp : List Addr), PE (X.blk s H scope (compEnvC scope cl C X.env) fp) elt (tE N T call W0 X e)) (hs : notSetI iter = true) (hs1 : notSetI iter1 = true) :
    PS X (.Assign [.Name y py] (.ListComp elt [⟨tg, iter, [], 0⟩, ⟨tg1, iter1, [], 0⟩] scope pos) spos) (tS N T call W X (.own i0 (.lc2 e t k args t2 k2 args2 own own2))) := by
  subst ho
  exact PS.imp (ps_setLc2 hc hN hy hyl hsw hi ok hv hg (fun _ _ _ _ _ => pts_nil) hi1 hg1 (fun _ _ _ _ _ => pts_nil) he (folded_of hs) (fun _ => folded_of hs1)) (own_v fun _ _ _ h => lc2_imp hsl hsl2 h)
/-- (a, b, ..) = e -/
theorem ss_asgT {pt pe : Expr} {e : E} {is : List Nat} (hg : PG X pt (tG N X.w X.K (.t is))) (h : PE X pe (tE N T call W X e)) (hs : swapsWithSole [pt] pe pos.line X.env = pure false) (hw : swappedStores [pt] pe X.env = pure none) (h1 : (assignEach [pt] X.env).map (·.2) = [assign pt X.env]) :
    PS X (.Assign [pt] pe pos) (tS N T call W X (.asg (.t is) e)) := by
  refine PS.imp (ps_asg h hg hs hw h1) fun D σ H ⟨ρ, M, G, as, as0, G0, He, s, en, wf, h⟩ => ?_
  rw [exec] at h
  refine ⟨ρ, M, G, as, He, en, wf, h.go s en fun v M1 H1 G1 as1 e1 s1 w1 h x vr => ?_⟩
  obtain ⟨y, ey, h⟩ := h.of
  obtain ⟨G2, s2, w2, st⟩ := vr.toD ey w1 s1
  obtain ⟨ρ2, eb, h⟩ := h.of
  exact ⟨y, ρ, ρ2, G2, as1, He, _, en.stp s2, w2.sub, st, eb, fun σ' en' _ => h σ' H1 G2 as1 (s.trans s2) en' w2⟩
theorem ss_asg2 {i j : Nat} {x y : Str} {pa pb : Expr} {a b : E} {px py pt : Pos} {kt k2 pt2} (hc : X.calm = true) (hN : X.N.Nodup) (hi : X.N[i]? = some x) (hj : X.N[j]? = some y) (hij : i ≠ j)
    (hx : X.env.scope.names.lookup x = some .local) (hy : X.env.scope.names.lookup y = some .local) (ha : PA X [pa, pb] (tAs N T call W X [a, b]))
    (hw : swappedStores [.Tuple [.Name x px, .Name y py] kt pt] (.Tuple [pa, pb] k2 pt2) X.env = pure (some [x, y])) (hs : swapsWithSole [.Tuple [.Name x px, .Name y py] kt pt] (.Tuple [pa, pb] k2 pt2) pos.line X.env = pure false) :
    PS X (.Assign [.Tuple [.Name x px, .Name y py] kt pt] (.Tuple [pa, pb] k2 pt2) pos) (tS N T call W X (.asg2 i j a b)) := by
  refine PS.imp (ps_par hc hN hi hj hij hx hy ha hw hs) fun D σ H ⟨ρ, M, G, as, as0, G0, He, s, en, wf, h⟩ => ?_
  rw [exec] at h
  refine ⟨ρ, M, G, as, He, en, wf, h.go s en fun vs M1 H1 G1 as1 e1 s1 w1 h us rs => ?_⟩
  cases rs with
  | nil => exact h.elim
  | cons r1 rs =>
    cases rs with
    | nil => exact h.elim
    | cons r2 rs =>
      cases rs with
      | cons r3 rs => exact h.elim
      | nil => exact ⟨_, _, rfl, h _ H1 G1 as1 (s.trans s1) (((en.stp s1).setR i r1).setR j r2) w1⟩
/-! ### changes of an own list -/
theorem own_at {w : World} {K : PySem.W.Frag} {as as1 : List Addr} {G G1 He H H1 : Hp} {σ : St} {ρ : Env} {i : Nat} {x : Fm.D} (en : EnvOk N w K G as He H σ ρ) (e : ρ[i]? = some (some (.o x))) : ∃ a, σ[i]? = some (some (.ref a)) ∧ Top N w K G H a x ∧ G a = none ∧ a ∉ as ∧ He a = none := by
  obtain ⟨v, h1, a, rfl, h2, h3, h4, h5⟩ := en.val i _ e
  exact ⟨a, h1, h2, h3, h4, h5⟩
theorem mu_fin {D : Ends} {σ : St} {ρ : Env} {M : Mem} {as0 as : List Addr} {G0 He G H : Hp} {i : Nat} {z : Fm.D} {a : Addr} {vs' : List V} {ds' : List Fm.D} (s : Stp as0 G0 He as G H) (en : EnvOk N X.w X.K G as He H σ ρ) (wf : Wf N X.w X.K G H as M) (ez : ρ[i]? = some (some (.o z))) (h1 : σ[i]? = some (some (.ref a)))
    (h3 : G a = none) (h4 : a ∉ as) (h5 : He a = none) (r : Reps N X.w X.K G vs' ds') (h : GS N X.w X.K W D as0 G0 He (.ok .nx (ρ.set i (some (.o (.lst ds')))) M)) : D.nx σ (upd H a (.lst vs')) :=
  h σ _ G as (s.upd_new h5) (en.own ez h1 ⟨vs', upd_same, r⟩) (wf.upd_own h3 h4)
theorem ss_mu {i : Nat} {x nm : Str} {id : String} {m : Mu} {pe : Expr} {e : E} {p apos cpos : Pos} {r : V → List V → Hp → VK → Prop} (pa : PlainAttrs "list") (slot : Slot "list" nm id) (hty : typeOf (.builtin id) = pure (.type "method_descriptor")) (hm : MtR X id r)
    (hr : ∀ {G H : Hp} {a : Addr} {ds ds' : List Fm.D} {vs : List V} {y : Fm.D} {v : V} {Q : VK}, H a = some (.lst vs) → Reps N X.w X.K G vs ds → Sub G H → Rep N X.w X.K G v y → muD m ds [y] = some ds' → (∀ vs', Reps N X.w X.K G vs' ds' → Q .non (upd H a (.lst vs'))) → r (.ref a) [v] H Q)
    (hN : X.N[i]? = some x) (hv : Vis X.env.scope x) (hd : (x == ("__debug__" : Str)) = false) (hcd : (x == ("__classdict__" : Str)) = false) (ha : PA X [pe] (tDs N T call W X [e]))
    (hns : notStar pe = true) (hline : (apos.endLine == cpos.line) = true) :
    PS X (.Expr (.Call (.Attribute (.Name x p) nm apos) [pe] [] cpos) pos) (tS N T call W X (.mu m i [e])) := by
  refine PS.imp (ps_expr (pe_bm pa slot hty hm (pe_var hN hv hd hcd) ha rfl (by cases pe <;> first | rfl | cases hns) hline (starEach_of hns) rfl) rfl) fun D σ H ⟨ρ, M, G, as, as0, G0, He, s, en, wf, h⟩ => ?_
  rw [exec] at h
  split at h
  · rename_i ds ez
    obtain ⟨a, h1, ⟨vs0, k1, k2⟩, h3, h4, h5⟩ := own_at (as1 := as) (G1 := G) (H1 := H) en ez
    refine ⟨_, h1, .inl ⟨rfl, vs0, SqL.of k1⟩, ρ, M, G, as, He, en, wf, h.go s en fun ys M1 H1 G1 as1 e1 s1 w1 h vs rs => ?_⟩
    obtain ⟨ds', ed, hh⟩ := h.of
    obtain ⟨y, rfl⟩ : ∃ y, ys = [y] := by
      rw [evalDs] at e1
      cases e2 : eval T call e ρ M with
      | bad => rw [e2] at e1; cases e1
      | ex c fs M1 => rw [e2] at e1; cases e1
      | ok v M1 =>
        rw [e2, Res.bind_ok] at e1
        cases e3 : v.toD with
        | none => rw [e3] at e1; cases e1
        | some y => rw [e3, Res.of_some, Res.bind_ok, evalDs, Res.bind_ok] at e1; cases e1; exact ⟨y, rfl⟩
    cases rs with
    | cons r1 rs =>
      cases rs
      exact hr (s1.keep a _ k1 h4) (Reps.sub s1.ext k2) w1.sub r1 ed fun vs' rv => mu_fin (s.trans s1) (en.stp s1) w1 ez h1 (s1.free a _ k1 h3) (s1.notin h4 k1) h5 rv hh
  · exact h.elim
theorem ss_append {i : Nat} {x : Str} {pe : Expr} {e : E} {p apos cpos : Pos} (hN : X.N[i]? = some x) (hv : Vis X.env.scope x) (hd : (x == ("__debug__" : Str)) = false) (hcd : (x == ("__classdict__" : Str)) = false) (ha : PA X [pe] (tDs N T call W X [e])) (hns : notStar pe = true) (hline : (apos.endLine == cpos.line) = true) :
    PS X (.Expr (.Call (.Attribute (.Name x p) "append" apos) [pe] [] cpos) pos) (tS N T call W X (.mu .append i [e])) :=
  ss_mu (m := .append) PySem.F.plainAttrs_list PySem.F.slot_list_append PySem.F.type_list_append mt_append (fun {G H a ds ds' vs y v Q} h1 h2 sb r ed q => by
    rw [muD] at ed
    split at ed
    · rename_i hl
      cases ed
      exact ⟨a, vs, v, rfl, rfl, h1, by rw [h2.length]; exact hl, q _ (h2.append (.cons r .nil))⟩
    · cases ed) hN hv hd hcd ha hns hline
theorem ss_extend {i : Nat} {x : Str} {pe : Expr} {e : E} {p apos cpos : Pos} (hN : X.N[i]? = some x) (hv : Vis X.env.scope x) (hd : (x == ("__debug__" : Str)) = false) (hcd : (x == ("__classdict__" : Str)) = false) (ha : PA X [pe] (tDs N T call W X [e])) (hns : notStar pe = true) (hline : (apos.endLine == cpos.line) = true) :
    PS X (.Expr (.Call (.Attribute (.Name x p) "extend" apos) [pe] [] cpos) pos) (tS N T call W X (.mu .extend i [e])) :=
  ss_mu (m := .extend) PySem.F.plainAttrs_list PySem.F.slot_list_extend PySem.F.type_list_extend mt_extend (fun {G H a ds ds' vs y v Q} h1 h2 sb r ed q => by
    cases y with
    | lst ys =>
      rw [muD] at ed
      split at ed
      · rename_i hl
        cases ed
        cases r with
        | lst r1 r2 => exact ⟨a, _, vs, _, rfl, rfl, h1, sb _ _ r1, by rw [h2.length, r2.length]; exact of_decide_eq_true hl, q _ (h2.append r2)⟩
      · cases ed
    | _ => cases ed) hN hv hd hcd ha hns hline
theorem pset_or {X : Cx} {t t' : TSet} (h : PSet X t) (h' : PSet X t') : PSet X (fun o i v H Q => t o i v H Q ∨ t' o i v H Q) := by
  intro pins s σ H o i v ov iv u Q I ro ri rv q
  rcases q with q | q
  · exact h pins s σ H o i v ov iv u Q I ro ri rv q
  · exact h' pins s σ H o i v ov iv u Q I ro ri rv q
theorem own_fin {D : Ends} {σ : St} {ρ : Env} {M : Mem} {as0 as : List Addr} {G0 He G H : Hp} {i : Nat} {z : Fm.D} {a : Addr} {o : HO} {d' : Fm.D} (s : Stp as0 G0 He as G H) (en : EnvOk N X.w X.K G as He H σ ρ) (wf : Wf N X.w X.K G H as M) (ez : ρ[i]? = some (some (.o z))) (h1 : σ[i]? = some (some (.ref a)))
    (h3 : G a = none) (h4 : a ∉ as) (h5 : He a = none) (r : Top N X.w X.K G (upd H a o) a d') (h : GS N X.w X.K W D as0 G0 He (.ok .nx (ρ.set i (some (.o d'))) M)) : D.nx σ (upd H a o) :=
  h σ _ G as (s.upd_new h5) (en.own ez h1 r) (wf.upd_own h3 h4)
/-- x[k] = e, x an own list or dict -/
theorem ss_setix {i : Nat} {x : Str} {pk pe : Expr} {k e : E} {p tpos : Pos} (hu : X.A.units + 1 < cLine) (hN : X.N[i]? = some x) (hv : Vis X.env.scope x) (hd : (x == ("__debug__" : Str)) = false) (hcd : (x == ("__classdict__" : Str)) = false) (hk : PE X pk (tE N T call W X k)) (he : PE X pe (tE N T call W X e))
    (hsw : swapsWithSole [.Subscript (.Name x p) pk tpos] pe pos.line X.env = pure false) (hst : swappedStores [.Subscript (.Name x p) pk tpos] pe X.env = pure none)
    (h1 : (assignEach [.Subscript (.Name x p) pk tpos] X.env).map (·.2) = [assign (.Subscript (.Name x p) pk tpos) X.env])
    (ha : ∀ v, assign (.Subscript (.Name x p) pk tpos) X.env v = (do
      let ov ← holding [v] (PySem.eval (.Name x p) X.env)
      let iv ← holding [v, ov] (PySem.eval pk X.env)
      standAt tpos
      holding [v, ov, iv] (setItem ov iv v)
      release [v, ov, iv] [])) :
    PS X (.Assign [.Subscript (.Name x p) pk tpos] pe pos) (tS N T call W X (.setix i k e)) := by
  refine PS.imp (ps_asg he (pg_sub (pe_var hN hv hd hcd) hk (pset_or set_list (set_dict hu)) ha) hsw hst h1) fun D σ H ⟨ρ, M, G, as, as0, G0, He, s, en, wf, h⟩ => ?_
  rw [exec] at h
  refine ⟨ρ, M, G, as, He, en, wf, h.go s en fun v M1 H1 G1 as1 e1 s1 w1 h z vr => ?_⟩
  obtain ⟨y, ey, h⟩ := h.of
  obtain ⟨G2, s2, w2, st⟩ := vr.toD ey w1 s1
  split at h
  · rename_i d ez
    obtain ⟨a, k1, k2, k3, k4, k5⟩ := own_at (as1 := as) (G1 := G) (H1 := H) en ez
    refine ⟨_, k1, ρ, M1, G2, as1, He, en.stp s2, w2, h.go (s.trans s2) (en.stp s2) fun kv M3 H3 G3 as3 e3 s3 w3 h kx vrk => ?_⟩
    obtain ⟨kd, ek, h⟩ := h.of
    obtain ⟨d', ed, h⟩ := h.of
    cases d with
    | lst ds =>
      cases kd with
      | int n =>
        obtain ⟨vs, t1, t2⟩ := k2
        obtain rfl : kx = .int n := by
          cases kv with
          | d kd => cases ek; cases vrk; rfl
          | o kd => cases ek; obtain ⟨b, _, z, _⟩ := vrk; exact z.elim
          | r n => cases ek
          | b kd => cases ek
        rw [setD] at ed
        cases ej : ixAt ds.length n with
        | none => rw [ej] at ed; cases ed
        | some j =>
          rw [ej] at ed
          cases ed
          have ss := s2.trans s3
          refine .inl ⟨a, vs, n, j, rfl, rfl, ss.keep a _ t1 k4, by rw [t2.length]; exact ej, ?_⟩
          exact mu_fin (s.trans ss) (en.stp ss) w3 ez k1 (ss.free a _ t1 k3) (ss.notin k4 t1) k5 ((Reps.sub ss.ext t2).set j (Rep.sub s3.ext st)) h
      | _ => cases ed
    | dct kvs =>
      rw [setD] at ed
      split at ed
      · rename_i hk
        cases ed
        rw [Bool.and_eq_true, decide_eq_true_eq] at hk
        obtain ⟨kk, rfl⟩ := kD_of hk.1
        obtain ⟨es, t1, t2⟩ := k2
        obtain rfl : kx = kV kk := by
          cases kv with
          | d kd => cases ek; exact kD_kV vrk
          | o kd =>
            cases ek
            obtain ⟨b, _, z, _⟩ := vrk
            cases kk <;> exact z.elim
          | r n => cases ek
          | b kd => cases ek
        have ss := s2.trans s3
        refine .inr ⟨a, _, rfl, .inl ⟨es, kk, ss.keep a _ t1 k4, rfl, by rw [t2.length]; exact hk.2, rfl⟩, ?_⟩
        exact own_fin (d' := .dct (dputD kvs (kD kk) y)) (s.trans ss) (en.stp ss) w3 ez k1 (ss.free a _ t1 k3) (ss.notin k4 t1) k5 ⟨_, upd_same, (RepE.sub ss.ext t2).put (Rep.sub s3.ext st)⟩ h
      · cases ed
    | _ => cases ed
  · exact h.elim
end
end Fm
end

/-! ## part LP -/
section
set_option maxHeartbeats 4000000
namespace Fm
open PySem PySem.Spec L2

/-! ### does our text stand for the program's? expressions -/
structure Ck where
  ns : List Str
  fn : Nat → Str
  np : Nat → Option Nat
  gn : Nat → Str
  gl : Nat → Bool
structure Sx where
  sc : Scope
  fs : Option Scope
def Sx.fn (s : Sx) (x : Str) : Bool := match s.fs with
  | none => true
  | some c => decide (c.names.lookup x = some .cell)
def Sx.blk (s : Sx) (scope : Scope) : Sx := ⟨relS scope s.sc, some scope⟩
def Sx.is (s : Sx) (x : Str) (k : NameKind) : Bool := decide (s.sc.names.lookup x = some k)
def Sx.vis (s : Sx) (x : Str) : Bool := s.is x .local || s.is x .cell || s.is x .free
def Sx.loc (s : Sx) (x : Str) : Bool := s.is x .local || s.is x .cell
def Sx.gl (s : Sx) (x : Str) : Bool := s.is x .globalImplicit
def okn (x : Str) : Bool := !(x == ("__debug__" : Str)) && !(x == ("__classdict__" : Str))
def chkV (C : Ck) (s : Sx) (i : Nat) (x : Str) : Bool := s.vis x && decide (C.ns[i]? = some x) && okn x
def chkN (C : Ck) (s : Sx) (i : Nat) (x : Str) : Bool := decide (C.ns[i]? = some x) && s.loc x && (s.fn x || s.is x .local)
def chkGs (C : Ck) (s : Sx) : List Nat → List Expr → Bool
  | [], [] => true
  | i :: is, .Name x _ :: es => chkN C s i x && chkGs C s is es
  | _, _ => false
def chkG (C : Ck) (s : Sx) : Tg → Expr → Bool
  | .v i, .Name x _ => chkN C s i x
  | .t is, .Tuple es _ _ => chkGs C s is es
  | _, _ => false
def isTup : Expr → Bool
  | .Tuple .. => true
  | _ => false
def chkC : D → Expr → Bool
  | .non, .Constant .none _ _ => true
  | .bl b, .Constant (.bool c) _ _ => b == c
  | .int i, .Constant (.int j) _ _ => decide (i = j)
  | .str x, .Constant (.str y) _ _ => decide (x = y)
  | _, _ => false

/-- the walked things of a walk -/
def itA (k : Ik) (s : Sx) (ptg pit : Expr) : Option (List Expr) := match k with
  | .seq => some [pit]
  | .range1 => match pit with
    | .Call (.Name x _) [pa] [] _ => if s.gl x && decide (x = ("range" : Str)) then some [pa] else none
    | _ => none
  | .range2 => match pit with
    | .Call (.Name x _) [pa, pb] [] _ => if s.gl x && decide (x = ("range" : Str)) then some [pa, pb] else none
    | _ => none
  | .enum => match pit with
    | .Call (.Name x _) [pa] [] _ => if isTup ptg && s.gl x && decide (x = ("enumerate" : Str)) then some [pa] else none
    | _ => none
  | .zip => match pit with
    | .Call (.Name x _) [pa, pb] [] _ => if isTup ptg && s.gl x && decide (x = ("zip" : Str)) then some [pa, pb] else none
    | _ => none
mutual
def chkE (C : Ck) : E → Bool → Sx → Expr → Bool
  | .var i, m, s, pe => (!m || plainTest pe) && match pe with
    | .Name x _ => chkV C s i x
    | _ => false
  | .c d, m, s, pe => (!m || plainTest pe) && chkC d pe
  | .g i, m, s, pe => (!m || plainTest pe) && match pe with
    | .Name x _ => s.gl x && decide (x = C.gn i) && okn x && C.gl i
    | _ => false
  | .tup es, m, s, pe => (!m || plainTest pe) && match pe with
    | .Tuple pes _ _ => chkEs C es s pes
    | _ => false
  | .lst es, m, s, pe => (!m || plainTest pe) && match pe with
    | .List pes _ => chkEs C es s pes
    | _ => false
  | .mlst es, m, s, pe => (!m || plainTest pe) && match pe with
    | .List pes _ => chkEs C es s pes
    | _ => false
  | .mref e, m, s, pe => !m && chkE C e false s pe
  | .not a, m, s, pe => match pe with
    | .UnaryOp .Not pa _ => chkE C a m s pa
    | _ => false
  | .and a b, m, s, pe => match pe with
    | .BoolOp .And (pa :: pb :: rest) pos => chkE C a m s pa && chkE C b m s (match rest with | [] => pb | _ => .BoolOp .And (pb :: rest) pos)
    | _ => false
  | .or a b, m, s, pe => match pe with
    | .BoolOp .Or (pa :: pb :: rest) pos => chkE C a m s pa && chkE C b m s (match rest with | [] => pb | _ => .BoolOp .Or (pb :: rest) pos)
    | _ => false
  | .neg a, m, s, pe => (!m || plainTest pe) && match pe with
    | .UnaryOp .USub pa _ => chkE C a false s pa
    | _ => false
  | .bin o a b, m, s, pe => (!m || plainTest pe) && match pe with
    | .BinOp pa op pb _ => decide (op = o.op) && chkE C a false s pa && chkE C b false s pb
    | _ => false
  | .cmp o a b, m, s, pe => match pe with
    | .Compare pa [op] [pb] _ => decide (op = o.op) && notSet pb && chkE C a false s pa && chkE C b false s pb
    | _ => false
  | .chain o p a b c, m, s, pe => match pe with
    | .Compare pa [op, op2] [pb, pc] _ => decide (op = o.op) && decide (op2 = p.op) && notSet pb && notSet pc && chkE C a false s pa && chkE C b false s pb && chkE C c false s pc
    | _ => false
  | .ife c a b, m, s, pe => !m && match pe with
    | .IfExp pc pa pb _ => chkE C c true s pc && chkE C a false s pa && chkE C b false s pb
    | _ => false
  | .ix a i, m, s, pe => (!m || plainTest pe) && match pe with
    | .Subscript pa pi _ => plainIx pi && chkE C a false s pa && chkE C i false s pi
    | _ => false
  | .sl a lo hi, m, s, pe => (!m || plainTest pe) && match pe with
    | .Subscript pa (.Slice pl ph none _) _ => chkE C a false s pa && chkO C lo s pl && chkO C hi s ph
    | _ => false
  | .call f es, m, s, pe => (!m || plainTest pe) && match pe with
    | .Call (.Name x _) (pe :: pes) [] _ => s.gl x && decide (x = C.fn f) && okn x && (pe :: pes).all notStar && decide (C.np f = some es.length) && chkEs C es s (pe :: pes)
    | _ => false
  | .pr p es, m, s, pe => (!m || plainTest pe) && match pe with
    | .Call (.Name x _) (pe :: pes) [] _ => s.gl x && decide (x = p.s) && (pe :: pes).all notStar && chkEs C es s (pe :: pes)
    | _ => false
  | .isi a t, m, s, pe => (!m || plainTest pe) && match pe with
    | .Call (.Name x _) [pa, .Name y _] [] _ => s.gl x && decide (x = ("isinstance" : Str)) && s.gl y && decide (y = t.s) && notStar pa && chkE C a false s pa
    | _ => false
  | .lc e tg k args ifs own, m, s, pe => (!m || plainTest pe) && match pe with
    | .ListComp elt [⟨ptg, pit, pifs, 0⟩] scope _ => (match itA k s ptg pit with | some ps => chkEs C args s ps | none => false) && blkC C.ns s.sc scope (own.map fun i => (C.ns.getD i "", i)) && tg.slots.all (fun i => decide (i ∈ own)) && chkG C (s.blk scope) tg ptg && chkIf C ifs (s.blk scope) pifs && chkE C e false (s.blk scope) elt && notSetI pit
    | _ => false
  | .lc2 e tg k args tg2 k2 args2 own own2, m, s, pe => (!m || plainTest pe) && match pe with
    | .ListComp elt [⟨ptg, pit, [], 0⟩, ⟨ptg2, pit2, [], 0⟩] scope _ => (match itA k s ptg pit with | some ps => chkEs C args s ps | none => false) && (match itA k2 (s.blk scope) ptg2 pit2 with | some ps => chkEs C args2 (s.blk scope) ps | none => false) && blkC C.ns s.sc scope (own.map fun i => (C.ns.getD i "", i)) && own2.all (fun i => decide (i ∈ own)) && tg.slots.all (fun i => decide (i ∈ own)) && tg2.slots.all (fun i => decide (i ∈ own2)) && chkG C (s.blk scope) tg ptg && chkG C (s.blk scope) tg2 ptg2 && chkE C e false (s.blk scope) elt && notSetI pit && notSetI pit2
    | _ => false
  | .mt k a es, m, s, pe => (!m || plainTest pe) && match pe with
    | .Call (.Attribute (.Name x p) nm apos) [pk, pd] [] cpos => decide (nm = ("get" : Str)) && decide (k = .get2) && (apos.endLine == cpos.line) && chkE C a false s (.Name x p) && chkEs C es s [pk, pd]
    | _ => false
  | .dzip es, m, s, pe => (!m || plainTest pe) && match pe with
    | .Call (.Name x _) [.Call (.Name y _) [pa, pb] [] _] [] _ => s.gl x && decide (x = ("dict" : Str)) && s.gl y && decide (y = ("zip" : Str)) && chkEs C es s [pa, pb]
    | _ => false
  | _, _, _, _ => false
termination_by structural x => x
def chkEs (C : Ck) : List E → Sx → List Expr → Bool
  | [], _, pes => match pes with
    | [] => true
    | _ => false
  | e :: es, s, pes => match pes with
    | pe :: pes => notStar pe && chkE C e false s pe && chkEs C es s pes
    | _ => false
termination_by structural x => x
def chkIf (C : Ck) : List E → Sx → List Expr → Bool
  | [], _, pes => match pes with
    | [] => true
    | _ => false
  | e :: es, s, pes => match pes with
    | [pe] => es.isEmpty && chkE C e true s pe
    | _ => false
termination_by structural x => x
def chkO (C : Ck) : List E → Sx → Option Expr → Bool
  | [], _, pe => match pe with
    | none => true
    | _ => false
  | e :: _, s, pe => match pe with
    | some pe => chkE C e false s pe
    | none => false
termination_by structural x => x
end
end Fm
end

/-! ## part LQ -/
section
set_option maxHeartbeats 4000000
namespace Fm
open PySem PySem.Spec L2

def blts : List Str := ["len", "abs", "int", "sum", "all", "any", "tuple", "list", "sorted", "min", "max", "dict", "isinstance", "bool", "str", "range", "enumerate", "zip"]
structure CtxOk (N : Nm) (T : Tab) (call : CallF) (C : Ck) (s : Sx) (W : WX) (X : Cx) : Prop where
  ns : X.N = C.ns
  nd : C.ns.Nodup
  sc : X.env.scope = s.sc
  fn : ∀ x, s.fn x = true → X.fn x = true
  calm : X.calm = true
  tk : Takes X W
  un : X.A.units + 64 < cLine
  blt : ∀ x ∈ blts, X.mg x = none
  gls : ∀ i y, T.gl i = some y → ∃ v u, X.mg (C.gn i) = some u ∧ RelV v u ∧ ∀ G, Rep N X.w X.K G v y
  glk : ∀ i, C.gl i = true → (T.gl i).isSome = true
  fns : ∀ (f n : Nat), C.np f = some n → ∃ (k : Nat) (fa : Addr) (fd : FuncData) (ps : List Str), FnOk X.prog X.w X.K X.mg X.base (L2.CX X.prog X.w) k fa fd ps (spF N X.w X.K call n f) ∧ Room k X.A ∧ X.mg (C.fn f) = some (.ref fa) ∧ PySem.W.keepIn X.K (.ref fa) = true ∧ Binds X.K fd ps []
structure Sound (N : Nm) (T : Tab) (call : CallF) (W : WX) (X : Cx) (m : Bool) (pe : Expr) (e : E) : Prop where
  ve : m = false → PE X pe (tE N T call W X e)
  ht : m = true → PT X pe (tT N T call W X e)
  hw : m = true → ∀ op vs pos, pe = .BoolOp op vs pos → PW X pe (tT N T call W X e)

section
variable {N : Nm} {T : Tab} {call : CallF} {C : Ck} {s : Sx} {W : WX} {X : Cx} {m : Bool}
theorem CtxOk.blk (h : CtxOk N T call C s W X) (scope : Scope) (s' : Shared) (H : Hp) (C' : Addr) (cl : List (Str × Addr)) (fp : List Addr) : CtxOk N T call C (s.blk scope) W0 (X.blk s' H scope (compEnvC scope cl C' X.env) fp) where
  ns := h.ns
  nd := h.nd
  sc := by
    show relS scope X.env.scope = relS scope s.sc
    rw [h.sc]
  fn := fun x e => by
    have e' : decide (scope.names.lookup x = some .cell) = true := e
    have e2 : scope.names.lookup x = some .cell := of_decide_eq_true e'
    show (scope.names.lookup x == some .cell) = true
    rw [e2]
    rfl
  calm := h.calm
  tk := takes0
  un := h.un
  blt := h.blt
  gls := h.gls
  glk := h.glk
  fns := h.fns
theorem CtxOk.is (h : CtxOk N T call C s W X) {x : Str} {k : NameKind} (e : s.is x k = true) : X.env.scope.names.lookup x = some k := by
  rw [h.sc]; exact of_decide_eq_true e
theorem CtxOk.vis (h : CtxOk N T call C s W X) {x : Str} (e : s.vis x = true) : Vis X.env.scope x := by
  unfold Sx.vis at e
  rw [Bool.or_eq_true, Bool.or_eq_true] at e
  rcases e with (e | e) | e
  · exact .inl (h.is e)
  · exact .inr (.inl (h.is e))
  · exact .inr (.inr (h.is e))
theorem CtxOk.loc (h : CtxOk N T call C s W X) {x : Str} (e : s.loc x = true) : Loc X.env.scope x := by
  unfold Sx.loc at e
  rw [Bool.or_eq_true] at e
  rcases e with e | e
  · exact .inl (h.is e)
  · exact .inr (h.is e)
theorem CtxOk.gl (h : CtxOk N T call C s W X) {x : Str} (e : s.gl x = true) : Gl X x := h.is e
theorem okn_of {x : Str} (h : okn x = true) : (x == ("__debug__" : Str)) = false ∧ (x == ("__classdict__" : Str)) = false := by
  unfold okn at h
  rw [Bool.and_eq_true] at h
  exact ⟨by simpa using h.1, by simpa using h.2⟩
theorem chkV_of (h : CtxOk N T call C s W X) {i : Nat} {x : Str} (e : chkV C s i x = true) : X.N[i]? = some x ∧ Vis X.env.scope x ∧ (x == ("__debug__" : Str)) = false ∧ (x == ("__classdict__" : Str)) = false := by
  unfold chkV at e
  rw [Bool.and_eq_true, Bool.and_eq_true] at e
  exact ⟨by rw [h.ns]; exact of_decide_eq_true e.1.2, h.vis e.1.1, okn_of e.2⟩
theorem chkN_of (h : CtxOk N T call C s W X) {i : Nat} {x : Str} (e : chkN C s i x = true) : X.N[i]? = some x ∧ Loc X.env.scope x ∧ (X.fn x = true ∨ X.env.scope.names.lookup x = some .local) := by
  unfold chkN at e
  rw [Bool.and_eq_true, Bool.and_eq_true, Bool.or_eq_true] at e
  refine ⟨by rw [h.ns]; exact of_decide_eq_true e.1.1, h.loc e.1.2, ?_⟩
  rcases e.2 with e | e
  · exact .inl (h.fn x e)
  · exact .inr (h.is e)
theorem CtxOk.nd' (h : CtxOk N T call C s W X) : X.N.Nodup := by rw [h.ns]; exact h.nd
theorem chkGs_ok (h : CtxOk N T call C s W X) : ∀ {is : List Nat} {es : List Expr}, chkGs C s is es = true → PGs X es (tGs N X.w X.K is) ∧ (assignEach es X.env).length = is.length ∧ (assignEach es X.env).findIdx? (·.1) = none
  | [], [], _ => ⟨sgs_nil, rfl, rfl⟩
  | i :: is, e :: es, hc => by
    cases e with
    | Name x p =>
      rw [chkGs, Bool.and_eq_true] at hc
      obtain ⟨h1, h2, h3⟩ := chkN_of h hc.1
      obtain ⟨k1, k2, k3⟩ := chkGs_ok h hc.2
      refine ⟨sgs_cons h.nd' h1 h2 h3 k1, ?_, ?_⟩
      · show (_ :: assignEach es X.env).length = _
        rw [List.length_cons, k2, List.length_cons]
      · show List.findIdx? (·.1) ((false, _) :: assignEach es X.env) = none
        rw [List.findIdx?_cons, k3]
        rfl
    | _ => cases hc
  | [], _ :: _, hc => by cases hc
  | _ :: _, [], hc => by cases hc
theorem chkG_ok (h : CtxOk N T call C s W X) {tg : Tg} {pe : Expr} (hc : chkG C s tg pe = true) : PG X pe (tG N X.w X.K tg) := by
  cases tg with
  | v i =>
    cases pe with
    | Name x p =>
      obtain ⟨h1, h2, h3⟩ := chkN_of h hc
      exact sg_name h.nd' h1 h2 h3
    | _ => cases hc
  | t is =>
    cases pe with
    | Tuple es k p =>
      obtain ⟨k1, k2, k3⟩ := chkGs_ok h hc
      exact sg_tup h.calm k1 k2 k3
    | _ => cases hc
theorem Sound.of {pe : Expr} {e : E} (h : (!m || plainTest pe) = true) (p : PE X pe (tE N T call W X e)) : Sound N T call W X m pe e where
  ve := fun _ => p
  ht := fun hm => by subst hm; exact st_val p (by simpa using h)
  hw := fun hm op vs pos hp => by
    subst hm
    subst hp
    simp [plainTest] at h
theorem Sound.not {pe : Expr} {e : E} (hp : ∀ op vs pos, pe ≠ .BoolOp op vs pos) (p : m = false → PE X pe (tE N T call W X e)) (q : m = true → PT X pe (tT N T call W X e)) : Sound N T call W X m pe e :=
  ⟨p, q, fun _ op vs pos h => absurd h (hp op vs pos)⟩
theorem mem_ty (t : Ty) : t.s ∈ blts := by cases t <;> simp [Ty.s, blts]
theorem mem_pr (t : Pr) : t.s ∈ blts := by cases t <;> simp [Pr.s, blts]
theorem chkC_ok {d : D} {pe : Expr} (h : chkC d pe = true) : PE X pe (tE N T call W X (.c d)) := by
  unfold chkC at h
  split at h
  · exact se_non
  · cases eq_of_beq h
    exact se_bl
  · cases of_decide_eq_true h
    exact se_int
  · cases of_decide_eq_true h
    exact se_str
  · cases h
theorem sic_ok (h : CtxOk N T call C s W X) {k : Ik} {args : List E} {ps : List Expr} {ptg pit : Expr} (hi : itA k s ptg pit = some ps) (hp : PA X ps (tPs N T call W X args)) (hs : ps.all notStar = true) (h1 : k = .seq → ∃ e, args = [e] ∧ PE X pit (tE N T call W X e)) : PI X ptg pit (tIC N T call W X k args) := by
  cases k with
  | seq =>
    obtain ⟨e, rfl, p⟩ := h1 rfl
    exact sic_seq p
  | range1 =>
    unfold itA at hi
    dsimp only at hi
    split at hi
    · split at hi
      · rename_i hh
        rw [Bool.and_eq_true] at hh
        cases hi
        cases of_decide_eq_true hh.2
        rw [List.all_cons, Bool.and_eq_true] at hs
        exact sic_range1 (h.gl hh.1) (h.blt _ (by simp [blts])) hs.1 hp
      · cases hi
    · cases hi
  | range2 =>
    unfold itA at hi
    dsimp only at hi
    split at hi
    · split at hi
      · rename_i hh
        rw [Bool.and_eq_true] at hh
        cases hi
        cases of_decide_eq_true hh.2
        rw [List.all_cons, List.all_cons, Bool.and_eq_true, Bool.and_eq_true] at hs
        exact sic_range2 (h.gl hh.1) (h.blt _ (by simp [blts])) hs.1 hs.2.1 hp
      · cases hi
    · cases hi
  | enum =>
    unfold itA at hi
    dsimp only at hi
    split at hi
    · split at hi
      · rename_i hh
        rw [Bool.and_eq_true, Bool.and_eq_true] at hh
        cases hi
        cases of_decide_eq_true hh.2
        rw [List.all_cons, Bool.and_eq_true] at hs
        cases ptg with
        | Tuple es kk tp => exact sic_enum (h.gl hh.1.2) (h.blt _ (by simp [blts])) hs.1 hp
        | _ => cases hh.1.1
      · cases hi
    · cases hi
  | zip =>
    unfold itA at hi
    dsimp only at hi
    split at hi
    · split at hi
      · rename_i hh
        rw [Bool.and_eq_true, Bool.and_eq_true] at hh
        cases hi
        cases of_decide_eq_true hh.2
        rw [List.all_cons, List.all_cons, Bool.and_eq_true, Bool.and_eq_true] at hs
        cases ptg with
        | Tuple es kk tp => exact sic_zip (h.gl hh.1.2) (h.blt _ (by simp [blts])) hs.1 hs.2.1 hp
        | _ => cases hh.1.1
      · cases hi
    · cases hi
theorem sis_ok (h : CtxOk N T call C s W X) {k : Ik} {args : List E} {ps : List Expr} {ptg pit : Expr} (hi : itA k s ptg pit = some ps) (hp : PA X ps (tDs N T call W X args)) (hs : ps.all notStar = true) (h1 : k = .seq → ∃ e, args = [e] ∧ PE X pit (tE N T call W X e)) : PI X ptg pit (tIS N T call W X k args) := by
  cases k with
  | seq =>
    obtain ⟨e, rfl, p⟩ := h1 rfl
    exact sis_seq p
  | range1 =>
    unfold itA at hi
    dsimp only at hi
    split at hi
    · split at hi
      · rename_i hh
        rw [Bool.and_eq_true] at hh
        cases hi
        cases of_decide_eq_true hh.2
        rw [List.all_cons, Bool.and_eq_true] at hs
        exact sis_range1 (h.gl hh.1) (h.blt _ (by simp [blts])) hs.1 hp
      · cases hi
    · cases hi
  | range2 =>
    unfold itA at hi
    dsimp only at hi
    split at hi
    · split at hi
      · rename_i hh
        rw [Bool.and_eq_true] at hh
        cases hi
        cases of_decide_eq_true hh.2
        rw [List.all_cons, List.all_cons, Bool.and_eq_true, Bool.and_eq_true] at hs
        exact sis_range2 (h.gl hh.1) (h.blt _ (by simp [blts])) hs.1 hs.2.1 hp
      · cases hi
    · cases hi
  | enum =>
    unfold itA at hi
    dsimp only at hi
    split at hi
    · split at hi
      · rename_i hh
        rw [Bool.and_eq_true, Bool.and_eq_true] at hh
        cases hi
        cases of_decide_eq_true hh.2
        rw [List.all_cons, Bool.and_eq_true] at hs
        cases ptg with
        | Tuple es kk tp => exact sis_enum (h.gl hh.1.2) (h.blt _ (by simp [blts])) hs.1 hp
        | _ => cases hh.1.1
      · cases hi
    · cases hi
  | zip =>
    unfold itA at hi
    dsimp only at hi
    split at hi
    · split at hi
      · rename_i hh
        rw [Bool.and_eq_true, Bool.and_eq_true] at hh
        cases hi
        cases of_decide_eq_true hh.2
        rw [List.all_cons, List.all_cons, Bool.and_eq_true, Bool.and_eq_true] at hs
        cases ptg with
        | Tuple es kk tp => exact sis_zip (h.gl hh.1.2) (h.blt _ (by simp [blts])) hs.1 hs.2.1 hp
        | _ => cases hh.1.1
      · cases hi
    · cases hi
end
end Fm
end

/-! ## part LR -/
section
set_option maxHeartbeats 4000000
namespace Fm
open PySem PySem.Spec L2
section
variable {N : Nm} {T : Tab} {call : CallF} {C : Ck}
theorem blk_own {own : List Nat} {ns : List Str} : (own.map fun i => (ns.getD i "", i)).map (·.2) = own := by
  rw [List.map_map]
  have e : ((fun x : Str × Nat => x.2) ∘ fun i => (ns.getD i "", i)) = id := rfl
  rw [e, List.map_id]
theorem BoolOp_one {op : BoolOp} {pa : Expr} {a : E} {pos : Pos} {W : WX} {X : Cx} (h : PE X pa (tE N T call W X a)) : PE X (.BoolOp op [pa] pos) (tE N T call W X a) := se_one h
mutual
theorem chkE_ok : ∀ (e : E) {m : Bool} {s : Sx} {W : WX} {X : Cx} {pe : Expr}, CtxOk N T call C s W X → chkE C e m s pe = true → Sound N T call W X m pe e
  | .var i, m, s, W, X, pe, hx, h => by
    unfold chkE at h
    rw [Bool.and_eq_true] at h
    obtain ⟨hp, h⟩ := h
    refine .of hp ?_
    split at h
    · obtain ⟨h1, h2, h3, h4⟩ := chkV_of hx h
      exact se_var h1 h2 h3 h4
    · cases h
  | .c d, m, s, W, X, pe, hx, h => by
    unfold chkE at h
    rw [Bool.and_eq_true] at h
    exact .of h.1 (chkC_ok h.2)
  | .g i, m, s, W, X, pe, hx, h => by
    unfold chkE at h
    rw [Bool.and_eq_true] at h
    obtain ⟨hp, h⟩ := h
    refine .of hp ?_
    split at h
    · rw [Bool.and_eq_true, Bool.and_eq_true, Bool.and_eq_true] at h
      obtain ⟨⟨⟨h1, h2⟩, h3⟩, h4⟩ := h
      cases of_decide_eq_true h2
      exact se_glob (hx.gl h1) (okn_of h3).1 (hx.gls i) (hx.glk i h4)
    · cases h
  | .tup es, m, s, W, X, pe, hx, h => by
    unfold chkE at h
    rw [Bool.and_eq_true] at h
    obtain ⟨hp, h⟩ := h
    refine .of hp ?_
    split at h
    · exact se_tup (chkEs_ok es hx h).1
    · cases h
  | .lst es, m, s, W, X, pe, hx, h => by
    unfold chkE at h
    rw [Bool.and_eq_true] at h
    obtain ⟨hp, h⟩ := h
    refine .of hp ?_
    split at h
    · exact se_lst (chkEs_ok es hx h).1
    · cases h
  | .mlst es, m, s, W, X, pe, hx, h => by
    unfold chkE at h
    rw [Bool.and_eq_true] at h
    obtain ⟨hp, h⟩ := h
    refine .of hp ?_
    split at h
    · exact se_mlst (chkEs_ok es hx h).2.1
    · cases h
  | .mref e, m, s, W, X, pe, hx, h => by
    unfold chkE at h
    rw [Bool.and_eq_true] at h
    obtain ⟨hp, h⟩ := h
    cases m with
    | true => cases hp
    | false => exact ⟨fun _ => se_mref ((chkE_ok e hx h).ve rfl), fun z => (nomatch z), fun z => (nomatch z)⟩
  | .not a, m, s, W, X, pe, hx, h => by
    unfold chkE at h
    split at h
    · have q := chkE_ok a hx h
      exact .not (fun _ _ _ z => nomatch z) (fun hm => se_not (q.ve hm)) fun hm => st_not (q.ht hm)
    · cases h
  | .and a b, m, s, W, X, pe, hx, h => by
    unfold chkE at h
    split at h
    · rename_i pa pb rest pos
      rw [Bool.and_eq_true] at h
      have qa := chkE_ok a hx h.1
      have qb := chkE_ok b hx h.2
      have w : m = true → PW X (.BoolOp .And (pa :: pb :: rest) pos) (tT N T call W X (.and a b)) := fun hm => by
        cases rest with
        | nil => exact sw_and (qa.ht hm) (sw_and1 (qb.ht hm))
        | cons r rs => exact sw_and (qa.ht hm) (qb.hw hm _ _ _ rfl)
      refine ⟨fun hm => ?_, fun hm => (w hm).pt, fun hm op vs pos e => w hm⟩
      cases rest with
      | nil => exact se_and (qa.ve hm) (se_one (qb.ve hm))
      | cons r rs => exact se_and (qa.ve hm) (qb.ve hm)
    · cases h
  | .or a b, m, s, W, X, pe, hx, h => by
    unfold chkE at h
    split at h
    · rename_i pa pb rest pos
      rw [Bool.and_eq_true] at h
      have qa := chkE_ok a hx h.1
      have qb := chkE_ok b hx h.2
      have w : m = true → PW X (.BoolOp .Or (pa :: pb :: rest) pos) (tT N T call W X (.or a b)) := fun hm => by
        cases rest with
        | nil => exact sw_or (qa.ht hm) (sw_or1 (qb.ht hm))
        | cons r rs => exact sw_or (qa.ht hm) (qb.hw hm _ _ _ rfl)
      refine ⟨fun hm => ?_, fun hm => (w hm).pt, fun hm op vs pos e => w hm⟩
      cases rest with
      | nil => exact se_or (qa.ve hm) (se_one (qb.ve hm))
      | cons r rs => exact se_or (qa.ve hm) (qb.ve hm)
    · cases h
  | .neg a, m, s, W, X, pe, hx, h => by
    unfold chkE at h
    rw [Bool.and_eq_true] at h
    obtain ⟨hp, h⟩ := h
    refine .of hp ?_
    split at h
    · exact se_neg ((chkE_ok a hx h).ve rfl)
    · cases h
  | .bin o a b, m, s, W, X, pe, hx, h => by
    unfold chkE at h
    rw [Bool.and_eq_true] at h
    obtain ⟨hp, h⟩ := h
    refine .of hp ?_
    split at h
    · rw [Bool.and_eq_true, Bool.and_eq_true] at h
      cases of_decide_eq_true h.1.1
      exact se_bin ((chkE_ok a hx h.1.2).ve rfl) ((chkE_ok b hx h.2).ve rfl)
    · cases h
  | .cmp o a b, m, s, W, X, pe, hx, h => by
    unfold chkE at h
    split at h
    · rw [Bool.and_eq_true, Bool.and_eq_true, Bool.and_eq_true] at h
      obtain ⟨⟨⟨h1, h2⟩, h3⟩, h4⟩ := h
      cases of_decide_eq_true h1
      have qa := (chkE_ok a hx h3).ve rfl
      have qb := (chkE_ok b hx h4).ve rfl
      exact .not (fun _ _ _ z => nomatch z) (fun _ => se_cmp hx.un h2 qa qb) fun _ => st_cmp hx.un h2 qa qb
    · cases h
  | .chain o p a b c, m, s, W, X, pe, hx, h => by
    unfold chkE at h
    split at h
    · rw [Bool.and_eq_true, Bool.and_eq_true, Bool.and_eq_true, Bool.and_eq_true, Bool.and_eq_true, Bool.and_eq_true] at h
      obtain ⟨⟨⟨⟨⟨⟨h1, h2⟩, h3⟩, h4⟩, h5⟩, h6⟩, h7⟩ := h
      cases of_decide_eq_true h1
      cases of_decide_eq_true h2
      have qa := (chkE_ok a hx h5).ve rfl
      have qb := (chkE_ok b hx h6).ve rfl
      have qc := (chkE_ok c hx h7).ve rfl
      exact .not (fun _ _ _ z => nomatch z) (fun _ => se_chain hx.un h3 h4 qa qb qc) fun _ => st_chain hx.un h3 h4 qa qb qc
    · cases h
  | .ife c a b, m, s, W, X, pe, hx, h => by
    unfold chkE at h
    rw [Bool.and_eq_true] at h
    obtain ⟨hp, h⟩ := h
    cases m with
    | true => cases hp
    | false =>
      refine ⟨fun _ => ?_, fun z => (nomatch z), fun z => (nomatch z)⟩
      split at h
      · rw [Bool.and_eq_true, Bool.and_eq_true] at h
        exact se_ife ((chkE_ok c hx h.1.1).ht rfl) ((chkE_ok a hx h.1.2).ve rfl) ((chkE_ok b hx h.2).ve rfl)
      · cases h
  | .ix a i, m, s, W, X, pe, hx, h => by
    unfold chkE at h
    rw [Bool.and_eq_true] at h
    obtain ⟨hp, h⟩ := h
    refine .of hp ?_
    split at h
    · rw [Bool.and_eq_true, Bool.and_eq_true] at h
      exact se_ix (by have := hx.un; omega) h.1.1 ((chkE_ok a hx h.1.2).ve rfl) ((chkE_ok i hx h.2).ve rfl)
    · cases h
  | .sl a lo hi, m, s, W, X, pe, hx, h => by
    unfold chkE at h
    rw [Bool.and_eq_true] at h
    obtain ⟨hp, h⟩ := h
    refine .of hp ?_
    split at h
    · rw [Bool.and_eq_true, Bool.and_eq_true] at h
      exact se_sl ((chkE_ok a hx h.1.1).ve rfl) (chkO_ok lo hx h.1.2) (chkO_ok hi hx h.2)
    · cases h
  | .call f es, m, s, W, X, pe, hx, h => by
    unfold chkE at h
    rw [Bool.and_eq_true] at h
    obtain ⟨hp, h⟩ := h
    refine .of hp ?_
    split at h
    · rw [Bool.and_eq_true, Bool.and_eq_true, Bool.and_eq_true, Bool.and_eq_true, Bool.and_eq_true] at h
      obtain ⟨⟨⟨⟨⟨h1, h2⟩, h3⟩, h4⟩, h5⟩, h6⟩ := h
      cases of_decide_eq_true h2
      obtain ⟨k, fa, fd, ps, F, hr, hm, hk, hb⟩ := hx.fns f _ (of_decide_eq_true h5)
      exact se_call F hr (hx.gl h1) hm hk hb hx.tk (okn_of h3).1 h4 rfl (chkEs_ok es hx h6).2.1
    · cases h
  | .pr p es, m, s, W, X, pe, hx, h => by
    unfold chkE at h
    rw [Bool.and_eq_true] at h
    obtain ⟨hp, h⟩ := h
    refine .of hp ?_
    split at h
    · rw [Bool.and_eq_true, Bool.and_eq_true, Bool.and_eq_true] at h
      obtain ⟨⟨⟨h1, h2⟩, h3⟩, h4⟩ := h
      cases of_decide_eq_true h2
      exact se_pr hx.un hx.calm (hx.gl h1) (hx.blt _ (mem_pr p)) h3 (chkEs_ok es hx h4).2.2.1
    · cases h
  | .isi a t, m, s, W, X, pe, hx, h => by
    unfold chkE at h
    rw [Bool.and_eq_true] at h
    obtain ⟨hp, h⟩ := h
    refine .of hp ?_
    split at h
    · rw [Bool.and_eq_true, Bool.and_eq_true, Bool.and_eq_true, Bool.and_eq_true, Bool.and_eq_true] at h
      obtain ⟨⟨⟨⟨⟨h1, h2⟩, h3⟩, h4⟩, h5⟩, h6⟩ := h
      cases of_decide_eq_true h2
      cases of_decide_eq_true h4
      exact se_isi (hx.gl h1) (hx.blt _ (by simp [blts])) (hx.gl h3) (hx.blt _ (mem_ty t)) h5 ((chkE_ok a hx h6).ve rfl)
    · cases h
  | .lc e tg k args ifs own, m, s, W, X, pe, hx, h => by
    unfold chkE at h
    rw [Bool.and_eq_true] at h
    obtain ⟨hp, h⟩ := h
    refine .of hp ?_
    split at h
    · rename_i elt ptg pit pifs scope pos
      rw [Bool.and_eq_true, Bool.and_eq_true, Bool.and_eq_true, Bool.and_eq_true, Bool.and_eq_true, Bool.and_eq_true] at h
      obtain ⟨⟨⟨⟨⟨⟨h1, h2⟩, h3⟩, h4⟩, h5⟩, h6⟩, h7⟩ := h
      cases hi : itA k s ptg pit with
      | none => rw [hi] at h1; cases h1
      | some ps =>
        rw [hi] at h1
        obtain ⟨k1, k2, k3, k4, k5, _⟩ := chkEs_ok args hx h1
        have hI : PI X ptg pit (tIC N T call W X k args) := sic_ok hx hi k3 k4 fun hk => by
          subst hk
          cases hi
          exact k5 _ rfl
        refine se_lc hx.calm hx.nd' hI (blkOk_by (by rw [hx.ns, hx.sc]; exact h2)) blk_own (fun i hi => ?_) (fun s' H C' cl fp => chkG_ok (hx.blk scope s' H C' cl fp) h4) (fun s' H C' cl fp => chkIf_ok ifs (hx.blk scope s' H C' cl fp) h5) (fun s' H C' cl fp => (chkE_ok e (hx.blk scope s' H C' cl fp) h6).ve rfl) h7
        exact of_decide_eq_true (List.all_eq_true.mp h3 i hi)
    · cases h
  | .att .., m, s, W, X, pe, hx, h => by unfold chkE at h; cases h
  | .dzip es, m, s, W, X, pe, hx, h => by
    unfold chkE at h
    rw [Bool.and_eq_true] at h
    obtain ⟨hp, h⟩ := h
    refine .of hp ?_
    split at h
    · simp only [Bool.and_eq_true] at h
      obtain ⟨⟨⟨⟨h1, h2⟩, h3⟩, h4⟩, h5⟩ := h
      cases of_decide_eq_true h2
      cases of_decide_eq_true h4
      obtain ⟨_, _, k3, k4, _⟩ := chkEs_ok es hx h5
      simp only [List.all_cons, Bool.and_eq_true] at k4
      exact se_dzip hx.calm (hx.gl h1) (hx.blt _ (by simp [blts])) (hx.gl h3) (hx.blt _ (by simp [blts])) k4.1 k4.2.1 k3
    · cases h
  | .mt k a es, m, s, W, X, pe, hx, h => by
    unfold chkE at h
    rw [Bool.and_eq_true] at h
    obtain ⟨hp, h⟩ := h
    refine .of hp ?_
    split at h
    · simp only [Bool.and_eq_true] at h
      obtain ⟨⟨⟨⟨h1, h2⟩, h3⟩, h4⟩, h5⟩ := h
      cases of_decide_eq_true h1
      cases of_decide_eq_true h2
      obtain ⟨_, _, _, k4, _, k6⟩ := chkEs_ok es hx h5
      obtain ⟨e1, e2, rfl, q1, q2⟩ := k6 _ _ rfl
      simp only [List.all_cons, Bool.and_eq_true] at k4
      exact se_get2 (by have := hx.un; omega) ((chkE_ok a hx h4).ve rfl) q1 q2 rfl k4.1 k4.2.1 h3
    · cases h
  | .lc2 e tg k args tg2 k2 args2 own own2, m, s, W, X, pe, hx, h => by
    unfold chkE at h
    rw [Bool.and_eq_true] at h
    obtain ⟨hp, h⟩ := h
    refine .of hp ?_
    split at h
    · rename_i elt ptg pit ptg2 pit2 scope pos
      simp only [Bool.and_eq_true] at h
      obtain ⟨⟨⟨⟨⟨⟨⟨⟨⟨⟨h1, h1'⟩, h2⟩, h3⟩, h4⟩, h4'⟩, h5⟩, h6⟩, h7⟩, h8⟩, h9⟩ := h
      cases hi : itA k s ptg pit with
      | none => rw [hi] at h1; cases h1
      | some ps =>
        rw [hi] at h1
        obtain ⟨k1, k2', k3, k4, k5, _⟩ := chkEs_ok args hx h1
        have hI : PI X ptg pit (tIC N T call W X k args) := sic_ok hx hi k3 k4 fun hk => by
          subst hk
          cases hi
          exact k5 _ rfl
        cases hi2 : itA k2 (s.blk scope) ptg2 pit2 with
        | none => rw [hi2] at h1'; cases h1'
        | some ps2 =>
          rw [hi2] at h1'
          have hI2 : ∀ (s' : Shared) (H : Hp) (C' : Addr) (cl : List (Str × Addr)) (fp : List Addr), PI (X.blk s' H scope (compEnvC scope cl C' X.env) fp) ptg2 pit2 (tIS N T call W0 X k2 args2) := fun s' H C' cl fp => by
            obtain ⟨k1, k2', k3, k4, k5, _⟩ := chkEs_ok args2 (hx.blk scope s' H C' cl fp) h1'
            exact sis_ok (hx.blk scope s' H C' cl fp) hi2 k1 k4 fun hk => by
              subst hk
              cases hi2
              exact k5 _ rfl
          exact se_lc2 hx.calm hx.nd' hI (blkOk_by (by rw [hx.ns, hx.sc]; exact h2)) blk_own (fun i hi => of_decide_eq_true (List.all_eq_true.mp h3 i hi)) (fun i hi => of_decide_eq_true (List.all_eq_true.mp h4 i hi)) (fun i hi => of_decide_eq_true (List.all_eq_true.mp h4' i hi)) (fun s' H C' cl fp => chkG_ok (hx.blk scope s' H C' cl fp) h5) hI2 (fun s' H C' cl fp => chkG_ok (hx.blk scope s' H C' cl fp) h6) (fun s' H C' cl fp => (chkE_ok e (hx.blk scope s' H C' cl fp) h7).ve rfl) h8 h9
    · cases h
termination_by structural x => x
theorem chkEs_ok : ∀ (es : List E) {s : Sx} {W : WX} {X : Cx} {pes : List Expr}, CtxOk N T call C s W X → chkEs C es s pes = true →
    PA X pes (tDs N T call W X es) ∧ PA X pes (tAs N T call W X es) ∧ PA X pes (tPs N T call W X es) ∧ pes.all notStar = true ∧ (∀ pe, pes = [pe] → ∃ e, es = [e] ∧ PE X pe (tE N T call W X e)) ∧
      ∀ pe pf, pes = [pe, pf] → ∃ e f, es = [e, f] ∧ PE X pe (tE N T call W X e) ∧ PE X pf (tE N T call W X f)
  | [], s, W, X, pes, hx, h => by
    unfold chkEs at h
    split at h
    · exact ⟨sa_dnil, sa_anil, sa_pnil, rfl, fun _ z => (nomatch z), fun _ _ z => nomatch z⟩
    · cases h
  | e :: es, s, W, X, pes, hx, h => by
    unfold chkEs at h
    split at h
    · rw [Bool.and_eq_true, Bool.and_eq_true] at h
      have q := (chkE_ok e hx h.1.2).ve rfl
      obtain ⟨k1, k2, k3, k4, k5, _⟩ := chkEs_ok es hx h.2
      refine ⟨sa_dcons h.1.1 q k1, sa_acons h.1.1 q k2, sa_pcons h.1.1 q k3, by rw [List.all_cons, h.1.1, k4]; rfl, fun pe z => ?_, fun pe pf z => ?_⟩
      rotate_left
      · cases z
        obtain ⟨f, rfl, qf⟩ := k5 _ rfl
        exact ⟨e, f, rfl, q, qf⟩
      cases z
      refine ⟨e, ?_, q⟩
      cases es with
      | nil => rfl
      | cons a b => have := h.2; unfold chkEs at this; cases this
    · cases h
termination_by structural x => x
theorem chkIf_ok : ∀ (es : List E) {s : Sx} {W : WX} {X : Cx} {pes : List Expr}, CtxOk N T call C s W X → chkIf C es s pes = true → PTs X pes (tTs N T call W X es)
  | [], s, W, X, pes, hx, h => by
    unfold chkIf at h
    split at h
    · exact sts_nil
    · cases h
  | e :: es, s, W, X, pes, hx, h => by
    unfold chkIf at h
    split at h
    · rw [Bool.and_eq_true] at h
      cases es with
      | cons => cases h.1
      | nil => exact sts_one ((chkE_ok e hx h.2).ht rfl)
    · cases h
termination_by structural x => x
theorem chkO_ok : ∀ (es : List E) {s : Sx} {W : WX} {X : Cx} {pe : Option Expr}, CtxOk N T call C s W X → chkO C es s pe = true → PO X pe (tO N T call W X es)
  | [], s, W, X, pe, hx, h => by
    unfold chkO at h
    split at h
    · exact so_none
    · cases h
  | e :: _, s, W, X, pe, hx, h => by
    unfold chkO at h
    split at h
    · exact so_some ((chkE_ok e hx h).ve rfl)
    · cases h
termination_by structural x => x
end
end
end Fm
end

/-! ## part LS -/
section
set_option maxHeartbeats 4000000
namespace Fm
open PySem PySem.Spec L2

/-! ### a cell of the store is changed -/
section
variable {N : Nm} {w : World} {K : PySem.W.Frag} {as : List Addr} {G H He : Hp} {M : Mem}
theorem Stp.cell {as0 : List Addr} {G0 Ha : Hp} {n : Nat} {a : Addr} {o : HO} (s : Stp as0 G0 Ha as G H) (e : as[n]? = some a) : Stp as0 G0 Ha as G (upd H a o) where
  ext := s.ext
  pre := s.pre
  keep := fun b u h1 h2 => by
    by_cases hb : b = a
    · subst hb
      rcases s.new b (List.mem_of_getElem? e) with q | q
      · exact absurd q h2
      · rw [h1] at q; cases q
    · rw [upd_ne hb]; exact s.keep b u h1 h2
  free := s.free
  new := s.new
  live := fun b u h => by
    by_cases hb : b = a
    · subst hb; exact ⟨o, upd_same⟩
    · obtain ⟨u', e'⟩ := s.live b u h
      exact ⟨u', by rw [upd_ne hb]; exact e'⟩
theorem nodup_get {α : Type} {l : List α} (h : l.Nodup) {i j : Nat} {x : α} (hi : l[i]? = some x) (hj : l[j]? = some x) : i = j := by
  obtain ⟨h1, e1⟩ := List.getElem?_eq_some_iff.mp hi
  exact (List.getElem?_inj h1 h).mp (hi.trans hj.symm)
theorem Wf.cellUp {n : Nat} {a : Addr} {o : HO} {c : Cell} (f : Wf N w K G H as M) (e : as[n]? = some a) (t : CellAt N w K G as (upd H a o) a c) : Wf N w K G (upd H a o) as (M.set n c) where
  sub := fun b u h => by
    have hb : b ≠ a := fun z => by
      subst z
      rw [f.out b (List.mem_of_getElem? e)] at h; cases h
    rw [upd_ne hb]; exact f.sub b u h
  len := by rw [List.length_set]; exact f.len
  mem := fun i b c' h1 h2 => by
    by_cases hi : n = i
    · subst hi
      rw [e] at h1; cases h1
      have hl : n < M.length := by
        have := (List.getElem?_eq_some_iff.mp h2).1
        rwa [List.length_set] at this
      rw [List.getElem?_set_self hl] at h2
      cases h2
      exact t
    · rw [List.getElem?_set_ne hi] at h2
      have hb : b ≠ a := fun z => hi (nodup_get f.nd e (z ▸ h1))
      exact (f.mem i b c' h1 h2).mono (fun u h => by rw [upd_ne hb]; exact h) Sub.refl fun _ _ z => z
  nd := f.nd
  out := f.out
theorem EnvOk.cell {σ : St} {ρ : Env} {n : Nat} {a : Addr} {o : HO} (en : EnvOk N w K G as He H σ ρ) (e : as[n]? = some a) : EnvOk N w K G as He (upd H a o) σ ρ where
  len := en.len
  val := fun i v ev => by
    obtain ⟨x, h1, h2⟩ := en.val i v ev
    refine ⟨x, h1, ?_⟩
    cases v with
    | d x => exact h2
    | r n => exact h2
    | o x =>
      obtain ⟨b, k1, k2, k3, k4, k5⟩ := h2
      have hb : b ≠ a := fun z => k4 (by rw [z]; exact List.mem_of_getElem? e)
      exact ⟨b, k1, k2.stp (fun u h => by rw [upd_ne hb]; exact h) Sub.refl, k3, k4, k5⟩
    | b x => exact h2
  dis := en.dis
  live := fun b u h => by
    by_cases hb : b = a
    · subst hb; exact ⟨o, upd_same⟩
    · obtain ⟨u', e'⟩ := en.live b u h
      exact ⟨u', by rw [upd_ne hb]; exact e'⟩
theorem Paired.setAt {α β : Type} {F : α → β → Prop} : ∀ {l : List α} {m : List β} (i : Nat) {a : α} {b : β}, Paired F l m → F a b → Paired F (l.set i a) (m.set i b)
  | _, _, _, _, _, .nil, _ => .nil
  | _, _, 0, _, _, .cons _ t, h => .cons h t
  | _, _, i + 1, _, _, .cons q t, h => .cons q (Paired.setAt i t h)
end

theorem subs_assign {po pk : Expr} {tpos : Pos} {env : PySem.Env} (hp : plainIx pk = true) : ∀ v, assign (.Subscript po pk tpos) env v = (do
      let ov ← holding [v] (PySem.eval po env)
      let iv ← holding [v, ov] (PySem.eval pk env)
      standAt tpos
      holding [v, ov, iv] (setItem ov iv v)
      release [v, ov, iv] []) := by
  intro v
  cases pk <;> first | rfl | cases hp

section
variable {N : Nm} {T : Tab} {call : CallF} {W : WX} {X : Cx} {pos : Pos}
/-- x[k] = e, x a list of the store -/
theorem ss_setixm {px pk pe : Expr} {x k e : E} {tpos : Pos} (hx : PE X px (tE N T call W X x)) (hk : PE X pk (tE N T call W X k)) (he : PE X pe (tE N T call W X e)) (hpl : plainIx pk = true)
    (hsw : swapsWithSole [.Subscript px pk tpos] pe pos.line X.env = pure false) (hst : swappedStores [.Subscript px pk tpos] pe X.env = pure none) :
    PS X (.Assign [.Subscript px pk tpos] pe pos) (tS N T call W X (.setixm x k e)) := by
  refine PS.imp (ps_asg he (pg_sub hx hk set_list (subs_assign hpl)) hsw hst rfl) fun D σ H ⟨ρ, M, G, as, as0, G0, He, s, en, wf, h⟩ => ?_
  rw [exec] at h
  refine ⟨ρ, M, G, as, He, en, wf, h.go s en fun v M1 H1 G1 as1 e1 s1 w1 h z vr => ?_⟩
  obtain ⟨y, ey, h⟩ := h.of
  obtain ⟨G2, s2, w2, st⟩ := vr.toArg ey w1 s1
  refine ⟨ρ, M1, G2, as1, He, en.stp s2, w2, h.go (s.trans s2) (en.stp s2) fun xv M3 H3 G3 as3 e3 s3 w3 h xx vrx => ?_⟩
  refine ⟨ρ, M3, G3, as3, He, (en.stp s2).stp s3, w3, h.go ((s.trans s2).trans s3) ((en.stp s2).stp s3) fun kv M4 H4 G4 as4 e4 s4 w4 h kx vrk => ?_⟩
  cases xv with
  | r n =>
    cases kv with
    | d kd =>
      cases kd with
      | int i =>
        dsimp only at h
        cases em : M4[n]? with
        | none => rw [em] at h; exact h.elim
        | some c =>
          rw [em] at h
          cases c with
          | lst xs =>
            obtain ⟨j, ej, h⟩ := h.of
            obtain ⟨a, ea, rfl⟩ := vrx
            have ea4 := s4.as_get ea
            obtain ⟨vs, t1, t2⟩ := w4.mem n a _ ea4 em
            cases vrk
            refine ⟨a, vs, i, j, rfl, rfl, t1, by rw [Paired.length t2]; exact ej, ?_⟩
            have ss := (s2.trans s3).trans s4
            have st4 : Stv N X.w X.K G4 as4 z y := (st.stp s3).stp s4
            exact h σ _ G4 as4 ((s.trans ss).cell ea4) ((en.stp ss).cell ea4) (w4.cellUp ea4 ⟨vs.set j z, upd_same, Paired.setAt j t2 st4⟩)
          | dct _ => exact h.elim
          | ins _ _ => exact h.elim
      | _ => exact h.elim
    | _ => exact h.elim
  | _ => exact h.elim
/-- x.clear(), x an own list -/
theorem ss_clear {i : Nat} {x : Str} {p apos cpos : Pos} (hN : X.N[i]? = some x) (hv : Vis X.env.scope x) (hd : (x == ("__debug__" : Str)) = false) (hcd : (x == ("__classdict__" : Str)) = false) (hline : (apos.endLine == cpos.line) = true) :
    PS X (.Expr (.Call (.Attribute (.Name x p) "clear" apos) [] [] cpos) pos) (tS N T call W X (.mu .clear i [])) := by
  refine PS.imp (ps_expr (pe_bm0 PySem.F.plainAttrs_list PySem.F.slot_list_clear PySem.F.type_list_clear mt_clear (pe_var hN hv hd hcd) rfl hline) rfl) fun D σ H ⟨ρ, M, G, as, as0, G0, He, s, en, wf, h⟩ => ?_
  rw [exec] at h
  split at h
  · rename_i ds ez
    obtain ⟨a, h1, ⟨vs0, k1, k2⟩, h3, h4, h5⟩ := own_at (as1 := as) (G1 := G) (H1 := H) en ez
    rw [evalDs, Res.go_ok, muD, Res.of_some, Res.go_ok] at h
    exact ⟨_, h1, .inl ⟨rfl, vs0, SqL.of k1⟩, a, vs0, rfl, rfl, k1, mu_fin s en wf ez h1 h3 h4 h5 .nil h⟩
  · exact h.elim
end

/-! ### where stores are exchanged -/
def compScope : Expr → Option Scope
  | .ListComp _ _ s _ | .SetComp _ _ s _ | .DictComp _ _ _ s _ => some s
  | _ => none
def swB (value : Expr) (sc : Scope) (t : Str) (pos : Pos) : Bool := match compScope value with
  | none => false
  | some scope => decide (sc.names.lookup t = some .local) && pos.line == value.pos.line && !(scope.names.any fun (n, k) => n == t && (k == .local || k == .cell))
theorem kind_beq (o : Option NameKind) (k : NameKind) : (o == some k) = decide (o = some k) := by
  cases o with
  | none => rfl
  | some j => cases j <;> cases k <;> rfl
theorem blockK {env : PySem.Env} (h : env.scope.kind = .function) : env.blockKind = .function := by
  unfold PySem.Env.blockKind; rw [h]; rfl
theorem sw_none {value : Expr} {t : Option Expr} {l : Nat} {env : PySem.Env} (h : compScope value = none) : swapsWith value t l env = pure false := by
  cases value <;> first | rfl | cases h
theorem sw_ok {value : Expr} {t : Str} {pos : Pos} {l : Nat} {env : PySem.Env} (hk : env.scope.kind = .function) : swapsWith value (some (.Name t pos)) l env = pure (swB value env.scope t pos) := by
  unfold swB
  cases h : compScope value with
  | none => exact sw_none h
  | some scope =>
    dsimp only
    unfold swapsWith
    have hb := blockK hk
    have kt : (env.kindOf t == some NameKind.local) = decide (env.scope.names.lookup t = some .local) := by
      unfold PySem.Env.kindOf
      exact kind_beq _ _
    cases value <;> first | (cases h; done) | (cases h; simp only [hb, kt]; rfl)
theorem sw_not {value t : Expr} {l : Nat} {env : PySem.Env} (h : ∀ x p, t ≠ .Name x p) : swapsWith value (some t) l env = pure false := by
  cases hc : compScope value with
  | none => exact sw_none hc
  | some scope =>
    unfold swapsWith
    cases value <;> first | (cases hc; done) | (cases t <;> first | rfl | exact absurd rfl (h _ _))
def notTup : Expr → Bool
  | .Tuple .. | .List .. => false
  | _ => true
theorem sws_not {t value : Expr} {env : PySem.Env} (h : notTup t = true) : swappedStores [t] value env = pure none := by
  cases t <;> first | (cases h; done) | rfl

def swS (ts vs : List Expr) (sc : Scope) : Option (Option (List Str)) :=
  if !(ts.length == 2 || ts.length == 3) || vs.length != ts.length then some none else
  if (vs.any fun | .Starred .. => true | _ => false) then some none else
  let line := (ts.head?.map (·.pos.line)).getD 0
  let names := ts.filterMap fun
    | .Name id pos => if decide (sc.names.lookup id = some .local) && pos.line == line then some id else none
    | _ => none
  if names.length != ts.length || names.eraseDups.length != names.length then some none else
  if vs.all (foldedForSure 8) then some none else
  if vs.all (constantsAlone 8) then none else some (some names)
theorem swS_ok {ts vs : List Expr} {k1 k2 p1 p2} {env : PySem.Env} {r : Option (List Str)} (hk : env.scope.kind = .function) (h : swS ts vs env.scope = some r) : swappedStores [.Tuple ts k1 p1] (.Tuple vs k2 p2) env = pure r := by
  unfold swS at h
  dsimp only at h
  unfold swappedStores
  have hb := blockK hk
  have kt : ∀ t, (env.kindOf t == some NameKind.local) = decide (env.scope.names.lookup t = some .local) := fun t => by
    unfold PySem.Env.kindOf
    exact kind_beq _ _
  have hbb : (ScopeKind.function != ScopeKind.function) = false := rfl
  simp only [hb, kt, hbb, Bool.or_false]
  split at h
  · rename_i c; cases h; exact (if_pos c).trans rfl
  · rename_i c
    refine (if_neg c).trans ?_
    split at h
    · rename_i c2; cases h; exact (if_pos c2).trans rfl
    · rename_i c2
      refine (if_neg c2).trans ?_
      split at h
      · rename_i c3; cases h; exact (if_pos c3).trans rfl
      · rename_i c3
        refine (if_neg c3).trans ?_
        split at h
        · rename_i c4; cases h; exact (if_pos c4).trans rfl
        · rename_i c4
          refine (if_neg c4).trans ?_
          split at h
          · cases h
          · rename_i c5
            cases h
            refine (if_neg c5).trans ?_
            rfl
/-- a tuple of targets: nothing is exchanged -/
def swsNo (t value : Expr) (sc : Scope) : Bool := match t, value with
  | .Tuple ts _ _, .Tuple vs _ _ => decide (swS ts vs sc = some none)
  | .Tuple .., .List .. => true
  | .Tuple .., .ListComp .. | .Tuple .., .Call .. | .Tuple .., .Name .. | .Tuple .., .Subscript .. | .Tuple .., .IfExp .. | .Tuple .., .Attribute .. | .Tuple .., .BinOp .. => true
  | _, _ => false
theorem swsNo_ok {t value : Expr} {env : PySem.Env} (hk : env.scope.kind = .function) (h : swsNo t value env.scope = true) : swappedStores [t] value env = pure none := by
  unfold swsNo at h
  split at h
  · exact swS_ok hk (of_decide_eq_true h)
  all_goals first | rfl | cases h
end Fm
end

/-! ## part LT -/
section
set_option maxHeartbeats 4000000
namespace Fm
open PySem PySem.Spec L2

section
variable {N : Nm} {T : Tab} {call : CallF} {C : Ck}
/-- an assignment whose store is exchanged with a comprehension's -/
theorem asgLc_ok {e : E} {tg : Tg} {k : Ik} {args ifs : List E} {own : List Nat} {s : Sx} {W : WX} {X : Cx} {pe : Expr} {i0 : Nat} {y : Str} {py spos : Pos} {o : Bool} (hx : CtxOk N T call C s W X) (h : chkE C (.lc e tg k args ifs own) false s pe = true)
    (hy : X.N[i0]? = some y) (hyl : X.env.scope.names.lookup y = some .local) (hsw : swapsWith pe (some (.Name y py)) spos.line X.env = pure true) :
    PS X (.Assign [.Name y py] pe spos) (tS N T call W X (if o then .own i0 (.lc e tg k args ifs own) else .asg (.v i0) (.lc e tg k args ifs own))) := by
  unfold chkE at h
  rw [Bool.and_eq_true] at h
  obtain ⟨hq, h⟩ := h
  split at h
  · rename_i elt ptg pit pifs scope pos
    simp only [Bool.and_eq_true] at h
    obtain ⟨⟨⟨⟨⟨⟨h1, h2⟩, h3⟩, h4⟩, h5⟩, h6⟩, h7⟩ := h
    cases hi : itA k s ptg pit with
    | none => rw [hi] at h1; cases h1
    | some ps =>
      rw [hi] at h1
      obtain ⟨k1, k2, k3, k4, k5, _⟩ := chkEs_ok args hx h1
      have hI : PI X ptg pit (tIC N T call W X k args) := sic_ok hx hi k3 k4 fun hk => by
        subst hk
        cases hi
        exact k5 _ rfl
      have hB : BlkOk X.N X.env.scope scope (own.map fun i => (C.ns.getD i "", i)) := blkOk_by (by rw [hx.ns, hx.sc]; exact h2)
      have hS : ∀ i ∈ tg.slots, i ∈ own := fun i hi => of_decide_eq_true (List.all_eq_true.mp h3 i hi)
      cases o with
      | true => exact ss_ownLc hx.calm hx.nd' hy hyl hsw hI hB blk_own hS (fun s' H C' cl fp => chkG_ok (hx.blk scope s' H C' cl fp) h4) (fun s' H C' cl fp => chkIf_ok ifs (hx.blk scope s' H C' cl fp) h5) (fun s' H C' cl fp => (chkE_ok e (hx.blk scope s' H C' cl fp) h6).ve rfl) h7
      | false => exact ss_asgLc hx.calm hx.nd' hy hyl hsw hI hB blk_own hS (fun s' H C' cl fp => chkG_ok (hx.blk scope s' H C' cl fp) h4) (fun s' H C' cl fp => chkIf_ok ifs (hx.blk scope s' H C' cl fp) h5) (fun s' H C' cl fp => (chkE_ok e (hx.blk scope s' H C' cl fp) h6).ve rfl) h7
  · cases h
theorem asgLc2_ok {e : E} {tg tg2 : Tg} {k k2 : Ik} {args args2 : List E} {own own2 : List Nat} {s : Sx} {W : WX} {X : Cx} {pe : Expr} {i0 : Nat} {y : Str} {py spos : Pos} {o : Bool} (hx : CtxOk N T call C s W X) (h : chkE C (.lc2 e tg k args tg2 k2 args2 own own2) false s pe = true)
    (hy : X.N[i0]? = some y) (hyl : X.env.scope.names.lookup y = some .local) (hsw : swapsWith pe (some (.Name y py)) spos.line X.env = pure true) :
    PS X (.Assign [.Name y py] pe spos) (tS N T call W X (if o then .own i0 (.lc2 e tg k args tg2 k2 args2 own own2) else .asg (.v i0) (.lc2 e tg k args tg2 k2 args2 own own2))) := by
  unfold chkE at h
  rw [Bool.and_eq_true] at h
  obtain ⟨hq, h⟩ := h
  split at h
  · rename_i elt ptg pit ptg2 pit2 scope pos
    simp only [Bool.and_eq_true] at h
    obtain ⟨⟨⟨⟨⟨⟨⟨⟨⟨⟨h1, h1'⟩, h2⟩, h3⟩, h4⟩, h4'⟩, h5⟩, h6⟩, h7⟩, h8⟩, h9⟩ := h
    cases hi : itA k s ptg pit with
    | none => rw [hi] at h1; cases h1
    | some ps =>
      rw [hi] at h1
      obtain ⟨k1, k2', k3, k4, k5, _⟩ := chkEs_ok args hx h1
      have hI : PI X ptg pit (tIC N T call W X k args) := sic_ok hx hi k3 k4 fun hk => by
        subst hk
        cases hi
        exact k5 _ rfl
      cases hi2 : itA k2 (s.blk scope) ptg2 pit2 with
      | none => rw [hi2] at h1'; cases h1'
      | some ps2 =>
        rw [hi2] at h1'
        have hI2 : ∀ (s' : Shared) (H : Hp) (C' : Addr) (cl : List (Str × Addr)) (fp : List Addr), PI (X.blk s' H scope (compEnvC scope cl C' X.env) fp) ptg2 pit2 (tIS N T call W0 X k2 args2) := fun s' H C' cl fp => by
          obtain ⟨k1, k2', k3, k4, k5, _⟩ := chkEs_ok args2 (hx.blk scope s' H C' cl fp) h1'
          exact sis_ok (hx.blk scope s' H C' cl fp) hi2 k1 k4 fun hk => by
            subst hk
            cases hi2
            exact k5 _ rfl
        have hB : BlkOk X.N X.env.scope scope (own.map fun i => (C.ns.getD i "", i)) := blkOk_by (by rw [hx.ns, hx.sc]; exact h2)
        have q3 : ∀ i ∈ own2, i ∈ own := fun i hi => of_decide_eq_true (List.all_eq_true.mp h3 i hi)
        have q4 : ∀ i ∈ tg.slots, i ∈ own := fun i hi => of_decide_eq_true (List.all_eq_true.mp h4 i hi)
        have q5 : ∀ i ∈ tg2.slots, i ∈ own2 := fun i hi => of_decide_eq_true (List.all_eq_true.mp h4' i hi)
        cases o with
        | true => exact ss_ownLc2 hx.calm hx.nd' hy hyl hsw hI hB blk_own q3 q4 q5 (fun s' H C' cl fp => chkG_ok (hx.blk scope s' H C' cl fp) h5) hI2 (fun s' H C' cl fp => chkG_ok (hx.blk scope s' H C' cl fp) h6) (fun s' H C' cl fp => (chkE_ok e (hx.blk scope s' H C' cl fp) h7).ve rfl) h8 h9
        | false => exact ss_asgLc2 hx.calm hx.nd' hy hyl hsw hI hB blk_own q3 q4 q5 (fun s' H C' cl fp => chkG_ok (hx.blk scope s' H C' cl fp) h5) hI2 (fun s' H C' cl fp => chkG_ok (hx.blk scope s' H C' cl fp) h6) (fun s' H C' cl fp => (chkE_ok e (hx.blk scope s' H C' cl fp) h7).ve rfl) h8 h9
  · cases h
end

/-! ### does our text stand for the program's? statements -/
def isComp : E → Bool
  | .lc .. | .lc2 .. => true
  | _ => false
def isNon : E → Bool
  | .c .non => true
  | _ => false
def ghost : S → Bool
  | .frz _ | .kill _ => true
  | _ => false
mutual
def chkS (C : Ck) : S → Sx → Stmt → Bool
  | .asg tg e, s, st => match st with
    | .Assign [pt] pe pos => chkE C e false s pe && match tg with
      | .v i => (match pt with
        | .Name x p => chkN C s i x && (!swB pe s.sc x p || isComp e)
        | _ => false)
      | .t is => chkG C s (.t is) pt && swsNo pt pe s.sc
    | _ => false
  | .own i e, s, st => match st with
    | .Assign [.Name x p] pe pos => chkE C e false s pe && chkN C s i x && (!swB pe s.sc x p || isComp e)
    | _ => false
  | .asg2 i j a b, s, st => match st with
    | .Assign [.Tuple [.Name x px, .Name y py] _ _] (.Tuple [pa, pb] _ _) _ => decide (C.ns[i]? = some x) && decide (C.ns[j]? = some y) && decide (i ≠ j) && s.is x .local && s.is y .local &&
      decide (swS [.Name x px, .Name y py] [pa, pb] s.sc = some (some [x, y])) && notStar pa && notStar pb && chkE C a false s pa && chkE C b false s pb
    | _ => false
  | .frz _, _, _ => false
  | .kill _, _, _ => false
  | .ret e, s, st => match st with
    | .Return (some pe) _ => chkE C e false s pe
    | .Return none _ => isNon e
    | _ => false
  | .retmv i, s, st => match st with
    | .Return (some (.Name x _)) _ => chkV C s i x
    | _ => false
  | .expr e, s, st => match st with
    | .Expr pe _ => (compScope pe).isNone && chkE C e false s pe
    | _ => false
  | .ifs c a b, s, st => match st with
    | .If pc pa pb _ => chkE C c true s pc && chkSs C a s pa && chkSs C b s pb
    | _ => false
  | .fors tg k args body, s, st => match st with
    | .For ptg pit pb [] _ => (match itA k s ptg pit with | some ps => chkEs C args s ps | none => false) && chkG C s tg ptg && chkSs C body s pb && notSetI pit
    | _ => false
  | .whiles c body, s, st => match st with
    | .While pc pb [] _ => chkE C c true s pc && chkSs C body s pb
    | _ => false
  | .brk, _, st => match st with
    | .Break _ => true
    | _ => false
  | .cnt, _, st => match st with
    | .Continue _ => true
    | _ => false
  | .pas, _, st => match st with
    | .Pass _ => true
    | .Expr (.Constant (.str _) _ _) _ => true
    | _ => false
  | .never, _, _ => true
  | .mu m i es, s, st => match st with
    | .Expr (.Call (.Attribute (.Name x _) nm apos) pes [] cpos) _ => chkV C s i x && (apos.endLine == cpos.line) && chkEs C es s pes && match m with
      | .append => decide (nm = ("append" : Str)) && decide (pes.length = 1)
      | .extend => decide (nm = ("extend" : Str)) && decide (pes.length = 1)
      | .clear => decide (nm = ("clear" : Str)) && decide (pes.length = 0)
      | _ => false
    | _ => false
  | .setix i k e, s, st => match st with
    | .Assign [.Subscript (.Name x _) pk _] pe _ => chkV C s i x && plainIx pk && chkE C k false s pk && chkE C e false s pe
    | _ => false
  | .setixm x k e, s, st => match st with
    | .Assign [.Subscript px pk _] pe _ => plainIx pk && chkE C x false s px && chkE C k false s pk && chkE C e false s pe
    | _ => false
  | .raise _ _, _, _ => false
termination_by structural x => x
def chkSs (C : Ck) : List S → Sx → List Stmt → Bool
  | [], _, ps => match ps with
    | [] => true
    | _ => false
  | t :: ss, s, ps => if ghost t then chkSs C ss s ps else match ps with
    | p :: ps => chkS C t s p && chkSs C ss s ps
    | [] => false
termination_by structural x => x
end

section
variable {N : Nm} {T : Tab} {call : CallF} {C : Ck}
theorem len1 {α : Type} {l : List α} (h : l.length = 1) : ∃ a, l = [a] := by
  cases l with
  | nil => cases h
  | cons a t => cases t with
    | nil => exact ⟨a, rfl⟩
    | cons b t => cases h
theorem swB_local {pe : Expr} {sc : Scope} {x : Str} {p : Pos} (h : swB pe sc x p = true) : sc.names.lookup x = some .local := by
  unfold swB at h
  split at h
  · cases h
  · simp only [Bool.and_eq_true, decide_eq_true_eq] at h
    exact h.1.1
theorem sws_tup {ts : List Expr} {k p v l} {env : PySem.Env} : swapsWithSole [.Tuple ts k p] v l env = pure false := sw_not (t := .Tuple ts k p) (l := l) (env := env) fun _ _ z => nomatch z
theorem sws_sub {o k : Expr} {tp v l} {env : PySem.Env} : swapsWithSole [.Subscript o k tp] v l env = pure false := sw_not (t := .Subscript o k tp) (l := l) (env := env) fun _ _ z => nomatch z
theorem asgV_ok {e : E} {s : Sx} {W : WX} {X : Cx} {pe : Expr} {i : Nat} {x : Str} {p pos : Pos} {o : Bool} (hx : CtxOk N T call C s W X) (hk : X.env.scope.kind = .function) (he : chkE C e false s pe = true) (hn : chkN C s i x = true) (hb : (!swB pe s.sc x p || isComp e) = true) :
    PS X (.Assign [.Name x p] pe pos) (tS N T call W X (if o then .own i e else .asg (.v i) e)) := by
  obtain ⟨h1, h2, h3⟩ := chkN_of hx hn
  have hsw : swapsWith pe (some (.Name x p)) pos.line X.env = pure (swB pe s.sc x p) := by rw [sw_ok hk, hx.sc]
  cases hq : swB pe s.sc x p with
  | false =>
    rw [hq] at hsw
    cases o with
    | true => exact ss_own hx.nd' h1 h2 h3 ((chkE_ok e hx he).ve rfl) hsw
    | false => exact ss_asg hx.nd' h1 h2 h3 ((chkE_ok e hx he).ve rfl) hsw
  | true =>
    rw [hq] at hsw hb
    have hl : X.env.scope.names.lookup x = some .local := by rw [hx.sc]; exact swB_local hq
    cases e with
    | lc e tg k args ifs own => exact asgLc_ok (o := o) hx he h1 hl hsw
    | lc2 e tg k args tg2 k2 args2 own own2 => exact asgLc2_ok (o := o) hx he h1 hl hsw
    | _ => cases hb
mutual
theorem chkS_ok : ∀ (t : S) {s : Sx} {W : WX} {X : Cx} {p : Stmt}, CtxOk N T call C s W X → PassesOwn (model X.prog X.w) X.A X.env X.xe → X.env.scope.kind = .function → chkS C t s p = true → PS X p (tS N T call W X t)
  | .asg tg e, s, W, X, p, hx, hp, hk, h => by
    unfold chkS at h
    split at h
    · rename_i pt pe pos
      rw [Bool.and_eq_true] at h
      obtain ⟨he, h⟩ := h
      split at h
      · split at h
        · rw [Bool.and_eq_true] at h
          exact asgV_ok (o := false) hx hk he h.1 h.2
        · cases h
      · rw [Bool.and_eq_true] at h
        rename_i is
        have hg := chkG_ok hx h.1
        have hnt : ∀ x p, pt ≠ .Name x p := fun x p e => by subst e; cases h.1
        have hst : (assignEach [pt] X.env).map (·.2) = [assign pt X.env] := by
          cases pt <;> first | rfl | (cases h.1; done)
        exact ss_asgT hg ((chkE_ok e hx he).ve rfl) (sw_not hnt) (swsNo_ok hk (by rw [hx.sc]; exact h.2)) hst
    · cases h
  | .own i e, s, W, X, p, hx, hp, hk, h => by
    unfold chkS at h
    split at h
    · rw [Bool.and_eq_true, Bool.and_eq_true] at h
      exact asgV_ok (o := true) hx hk h.1.1 h.1.2 h.2
    · cases h
  | .asg2 i j a b, s, W, X, p, hx, hp, hk, h => by
    unfold chkS at h
    split at h
    · simp only [Bool.and_eq_true, decide_eq_true_eq] at h
      obtain ⟨⟨⟨⟨⟨⟨⟨⟨⟨h1, h2⟩, h3⟩, h4⟩, h5⟩, h6⟩, h7⟩, h8⟩, h9⟩, h10⟩ := h
      exact ss_asg2 hx.calm hx.nd' (by rw [hx.ns]; exact h1) (by rw [hx.ns]; exact h2) h3 (hx.is h4) (hx.is h5) (sa_acons h7 ((chkE_ok a hx h9).ve rfl) (sa_acons h8 ((chkE_ok b hx h10).ve rfl) sa_anil)) (swS_ok hk (by rw [hx.sc]; exact h6)) sws_tup
    · cases h
  | .frz _, s, W, X, p, hx, hp, hk, h => by unfold chkS at h; cases h
  | .kill _, s, W, X, p, hx, hp, hk, h => by unfold chkS at h; cases h
  | .ret e, s, W, X, p, hx, hp, hk, h => by
    unfold chkS at h
    split at h
    · exact ss_ret ((chkE_ok e hx h).ve rfl)
    · unfold isNon at h
      split at h
      · exact ss_retN
      · cases h
    · cases h
  | .retmv i, s, W, X, p, hx, hp, hk, h => by
    unfold chkS at h
    split at h
    · obtain ⟨h1, h2, h3, h4⟩ := chkV_of hx h
      exact ss_retmv h1 h2 h3 h4
    · cases h
  | .expr e, s, W, X, p, hx, hp, hk, h => by
    unfold chkS at h
    split at h
    · rw [Bool.and_eq_true] at h
      exact ss_expr ((chkE_ok e hx h.2).ve rfl) (sw_none (Option.isNone_iff_eq_none.mp h.1))
    · cases h
  | .ifs c a b, s, W, X, p, hx, hp, hk, h => by
    unfold chkS at h
    split at h
    · rw [Bool.and_eq_true, Bool.and_eq_true] at h
      exact ss_if ((chkE_ok c hx h.1.1).ht rfl) (chkSs_ok a hx hp hk h.1.2) (chkSs_ok b hx hp hk h.2)
    · cases h
  | .fors tg k args body, s, W, X, p, hx, hp, hk, h => by
    unfold chkS at h
    split at h
    · rename_i ptg pit pb pos
      rw [Bool.and_eq_true, Bool.and_eq_true, Bool.and_eq_true] at h
      obtain ⟨⟨⟨h1, h2⟩, h3⟩, h4⟩ := h
      cases hi : itA k s ptg pit with
      | none => rw [hi] at h1; cases h1
      | some ps =>
        rw [hi] at h1
        obtain ⟨k1, k2, k3, k4, k5, _⟩ := chkEs_ok args hx h1
        exact ss_for hp hx.calm (sis_ok hx hi k1 k4 fun hk => by
          subst hk
          cases hi
          exact k5 _ rfl) (chkG_ok hx h2) (chkSs_ok body hx hp hk h3) h4
    · cases h
  | .whiles c body, s, W, X, p, hx, hp, hk, h => by
    unfold chkS at h
    split at h
    · rw [Bool.and_eq_true] at h
      exact ss_while hp ((chkE_ok c hx h.1).ht rfl) (chkSs_ok body hx hp hk h.2)
    · cases h
  | .brk, s, W, X, p, hx, hp, hk, h => by
    unfold chkS at h
    split at h
    · exact ss_brk
    · cases h
  | .cnt, s, W, X, p, hx, hp, hk, h => by
    unfold chkS at h
    split at h
    · exact ss_cnt
    · cases h
  | .pas, s, W, X, p, hx, hp, hk, h => by
    unfold chkS at h
    split at h
    · exact ss_pas
    · exact ss_doc
    · cases h
  | .never, s, W, X, p, hx, hp, hk, h => ss_never
  | .mu m i es, s, W, X, p, hx, hp, hk, h => by
    unfold chkS at h
    split at h
    · simp only [Bool.and_eq_true] at h
      obtain ⟨⟨⟨h1, h2⟩, h3⟩, h4⟩ := h
      obtain ⟨n1, n2, n3, n4⟩ := chkV_of hx h1
      obtain ⟨k1, _, _, k4, k5, _⟩ := chkEs_ok es hx h3
      split at h4
      · simp only [Bool.and_eq_true, decide_eq_true_eq] at h4
        obtain ⟨rfl, hl⟩ := h4
        obtain ⟨pe, rfl⟩ := len1 hl
        obtain ⟨e, rfl, _⟩ := k5 _ rfl
        simp only [List.all_cons, Bool.and_eq_true] at k4
        exact ss_append n1 n2 n3 n4 k1 k4.1 h2
      · simp only [Bool.and_eq_true, decide_eq_true_eq] at h4
        obtain ⟨rfl, hl⟩ := h4
        obtain ⟨pe, rfl⟩ := len1 hl
        obtain ⟨e, rfl, _⟩ := k5 _ rfl
        simp only [List.all_cons, Bool.and_eq_true] at k4
        exact ss_extend n1 n2 n3 n4 k1 k4.1 h2
      · simp only [Bool.and_eq_true, decide_eq_true_eq] at h4
        obtain ⟨rfl, hl⟩ := h4
        cases List.length_eq_zero_iff.mp hl
        cases es with
        | nil => exact ss_clear n1 n2 n3 n4 h2
        | cons a as => unfold chkEs at h3; cases h3
      · cases h4
    · cases h
  | .setix i k e, s, W, X, p, hx, hp, hk, h => by
    unfold chkS at h
    split at h
    · simp only [Bool.and_eq_true] at h
      obtain ⟨⟨⟨h1, h2⟩, h3⟩, h4⟩ := h
      obtain ⟨n1, n2, n3, n4⟩ := chkV_of hx h1
      exact ss_setix (by have := hx.un; omega) n1 n2 n3 n4 ((chkE_ok k hx h3).ve rfl) ((chkE_ok e hx h4).ve rfl) sws_sub (sws_not rfl) rfl (subs_assign h2)
    · cases h
  | .setixm x k e, s, W, X, p, hx, hp, hk, h => by
    unfold chkS at h
    split at h
    · simp only [Bool.and_eq_true] at h
      obtain ⟨⟨⟨h1, h2⟩, h3⟩, h4⟩ := h
      exact ss_setixm ((chkE_ok x hx h2).ve rfl) ((chkE_ok k hx h3).ve rfl) ((chkE_ok e hx h4).ve rfl) h1 sws_sub (sws_not rfl)
    · cases h
  | .raise _ _, s, W, X, p, hx, hp, hk, h => by unfold chkS at h; cases h
termination_by structural x => x
theorem chkSs_ok : ∀ (ts : List S) {s : Sx} {W : WX} {X : Cx} {ps : List Stmt}, CtxOk N T call C s W X → PassesOwn (model X.prog X.w) X.A X.env X.xe → X.env.scope.kind = .function → chkSs C ts s ps = true → PSs X ps (tSs N T call W X ts)
  | [], s, W, X, ps, hx, hp, hk, h => by
    unfold chkSs at h
    split at h
    · exact ss_nil
    · cases h
  | t :: ts, s, W, X, ps, hx, hp, hk, h => by
    unfold chkSs at h
    split at h
    · rename_i hg
      have q := chkSs_ok ts hx hp hk h
      cases t with
      | frz i => exact ss_frz q
      | kill is => exact ss_kill q
      | _ => cases hg
    · split at h
      · rw [Bool.and_eq_true] at h
        exact ss_cons (chkS_ok t hx hp hk h.1) (chkSs_ok ts hx hp hk h.2)
      · cases h
termination_by structural x => x
end
end
end Fm
end

/-! ## part LU -/
section
set_option maxHeartbeats 4000000
namespace Fm
open PySem PySem.Spec L2

section
variable {N : Nm} {w : World} {K : PySem.W.Frag}
theorem Paired.getL {α β : Type} {F : α → β → Prop} : ∀ {l : List α} {m : List β} {i : Nat} {b : β}, Paired F l m → m[i]? = some b → ∃ a, l[i]? = some a ∧ F a b
  | _, _, _, _, .nil, e => by simp at e
  | _, _, 0, b, .cons h _, e => by simp at e; subst e; exact ⟨_, rfl, h⟩
  | _, _, i + 1, b, .cons _ t, e => by
    obtain ⟨a, h1, h2⟩ := Paired.getL t (i := i) (by simpa using e)
    exact ⟨a, by simpa using h1, h2⟩
theorem start_ok {G H : Hp} {as : List Addr} {vs : List V} {xs : List Val} {ns : List Str} {nn : Nat} (hn : nn = ns.length) (r : Paired (Stv N w K G as) vs xs) : EnvOk N w K G as H H (L2.start ns vs) (xs.map some ++ List.replicate (nn - xs.length) none) := by
  have hl : vs.length = xs.length := Paired.length r
  have key : ∀ (i : Nat) (v : Val), (xs.map some ++ List.replicate (nn - xs.length) none)[i]? = some (some v) → xs[i]? = some v := fun i v e => by
    by_cases hi : i < xs.length
    · rw [List.getElem?_append_left (by simpa using hi), List.getElem?_map] at e
      cases q : xs[i]? with
      | none => rw [q] at e; cases e
      | some z => rw [q] at e; cases e; rfl
    · rw [List.getElem?_append_right (by simp; omega), List.getElem?_replicate] at e
      split at e <;> cases e
  have noO : ∀ (i : Nat) (x : Fm.D), (xs.map some ++ List.replicate (nn - xs.length) none)[i]? ≠ some (some (.o x)) := fun i x e => by
    obtain ⟨v, _, h⟩ := Paired.getL r (key i _ e)
    exact h
  refine ⟨?_, fun i v e => ?_, fun i j x y a e1 => absurd e1 (noO i x), fun a o h => ⟨o, h⟩⟩
  · unfold L2.start
    simp only [List.length_append, List.length_map, List.length_replicate, hl, hn]
  · obtain ⟨u, h1, h2⟩ := Paired.getL r (key i v e)
    refine ⟨u, ?_, ?_⟩
    · unfold L2.start
      rw [List.getElem?_append_left (by simpa using (List.getElem?_eq_some_iff.mp h1).1), List.getElem?_map, h1]
      rfl
    · cases v with
      | d x => exact h2
      | r n => exact h2
      | o x => exact h2.elim
      | b x => exact h2.elim
theorem GS.ofRes {E : XK} {Q : VK} {σ0 : St} {as : List Addr} {G H : Hp} {r : RS} (h : Good N w K (fun c d _ H => E c d H) σ0 as G H r.res fun v _ G' as' H' => ∀ x, VR N w K G' as' H H' x v → Q x H') :
    GS N w K (fun c d _ H => E c d H) { nx := fun _ H' => Q .non H', rt := Q } as G H r := by
  cases r with
  | ok f ρ M =>
    cases f with
    | nx => exact fun σ H' G' as' s en wf => h H' G' as' s wf .non Rep.non
    | brk => exact h.elim
    | cnt => exact h.elim
    | ret v => exact fun σ H' G' as' s en wf x vr => h H' G' as' s wf x vr
  | ex c fs ρ M => exact fun d σ H' G' as' s en wf e => h d H' G' as' s wf e
  | bad => exact h.elim
end

/-- what stands of a def: its function object, its names, its text and ours -/
structure DefOk (P : Program) (K : PySem.W.Frag) (mg : Str → Option Value) (T : Tab) (C : Ck) (f n : Nat) (fa : Addr) (fd : FuncData) (st : Stmt) (ns ps : List Str) (F : Fd) : Prop where
  fn : T.fn f = some F
  fun_ : FunD K (C.fn f) (C.fn f) (defArgs st) (defBody st) (defScope st) [] [] fa fd
  glo : mg (C.fn f) = some (.ref fa)
  bind : Binds K fd ps []
  lps : ps.length = n
  np : F.np = n
  nn : F.nn = ns.length
  sc : FnScope ns ps (defScope st)
  chk : chkSs { C with ns := ns } F.body ⟨defScope st, none⟩ (defBody st) = true
section
variable {P : Program} {w : World} {K : PySem.W.Frag} {mg : Str → Option Value} {base : Heap} {N : Nm} {T : Tab} {C : Ck}
/-- one def, its callees given -/
theorem fn_ok (hblt : ∀ x ∈ blts, mg x = none) (gls : ∀ i y, T.gl i = some y → ∃ v u, mg (C.gn i) = some u ∧ RelV v u ∧ ∀ G, Rep N w K G v y) (glk : ∀ i, C.gl i = true → (T.gl i).isSome = true) {k f n : Nat} {fa : Addr} {fd : FuncData} {st : Stmt} {ns ps : List Str} {F : Fd}
    (d : DefOk P K mg T C f n fa fd st ns ps F) (ih : ∀ f n, C.np f = some n → ∃ fa fd ps, FnOk P w K mg base (L2.CX P w) k fa fd ps (spF N w K (callF T k) n f) ∧ mg (C.fn f) = some (.ref fa) ∧ PySem.W.keepIn K (.ref fa) = true ∧ Binds K fd ps []) :
    FnOk P w K mg base (L2.CX P w) (k + 1) fa fd ps (spF N w K (callF T (k + 1)) n f) := by
  refine FunD.ok d.fun_ d.sc (fun vs H Q E ⟨M, G, as, xs, wf, r, hl, h⟩ => by rw [Paired.length r, hl, d.lps]) fun cdv A outer s H vs Q E hr hsp => ?_
  have hx : CtxOk N T (callF T k) { C with ns := ns } ⟨defScope st, none⟩ (fun c d _ H => E c d H) (cxOf (L2.CX P w) P w K mg base ns (C.fn f) (defScope st) fa cdv A outer s H E) := {
    ns := rfl
    nd := d.sc.nd
    sc := rfl
    fn := fun _ _ => rfl
    calm := rfl
    tk := takes_of rfl rfl rfl rfl
    un := by
      have h := hr.un
      show (A.deeper (PyProof.Rows.envOfC (C.fn f) (defScope st) s.heap.objs.size fa cdv)).units + 64 < cLine
      omega
    blt := hblt
    gls := gls
    glk := glk
    fns := fun g m hg => by
      obtain ⟨ga, gd, qs, h1, h2, h3, h4⟩ := ih g m hg
      exact ⟨k, ga, gd, qs, h1, hr, h2, h3, h4⟩ }
  refine ⟨_, chkSs_ok F.body hx (passes_of rfl) d.sc.kind d.chk, ?_⟩
  obtain ⟨M, G, as, xs, wf, r, hl, h⟩ := hsp
  refine ⟨xs.map some ++ List.replicate (F.nn - xs.length) none, M, G, as, as, G, H, Stp.refl, start_ok d.nn r, wf, ?_⟩
  rw [callF, d.fn] at h
  dsimp only at h
  rw [if_pos (by rw [hl, d.np])] at h
  exact GS.ofRes h
theorem tab_ok (hblt : ∀ x ∈ blts, mg x = none) (gls : ∀ i y, T.gl i = some y → ∃ v u, mg (C.gn i) = some u ∧ RelV v u ∧ ∀ G, Rep N w K G v y) (glk : ∀ i, C.gl i = true → (T.gl i).isSome = true)
    (D : ∀ f n, C.np f = some n → ∃ fa fd st ns ps F, DefOk P K mg T C f n fa fd st ns ps F) :
    ∀ k f n, C.np f = some n → ∃ fa fd ps, FnOk P w K mg base (L2.CX P w) k fa fd ps (spF N w K (callF T k) n f) ∧ mg (C.fn f) = some (.ref fa) ∧ PySem.W.keepIn K (.ref fa) = true ∧ Binds K fd ps [] := by
  intro k
  induction k with
  | zero =>
    intro f n hf
    obtain ⟨fa, fd, st, ns, ps, F, d⟩ := D f n hf
    exact ⟨fa, fd, ps, ⟨fun vs H Q E ⟨M, G, as, xs, wf, r, hl, h⟩ => h.elim, fun A outer s H args us vs Q E _ _ _ _ ⟨M, G, as, xs, wf, r, hl, h⟩ => h.elim⟩, d.glo, d.fun_.kp, d.bind⟩
  | succ k ih =>
    intro f n hf
    obtain ⟨fa, fd, st, ns, ps, F, d⟩ := D f n hf
    exact ⟨fa, fd, ps, fn_ok hblt gls glk d ih, d.glo, d.fun_.kp, d.bind⟩
end
/-- nothing tracked, nothing frozen -/
def noHp : Hp := fun _ => none
theorem walk_law {l : PySem.W.OpenLaw} {n k : Nat} {q : Program} {loose : List Str} {XP : (Str → Option Value) → Heap → Prop} {YP : World → Heap → Prop} {d : DefRec} {x : Str}
    (hn : l.most = some n) (hn2 : n ≤ sizeLine) (hdf : d.params.defaults = []) (hr : Room (k + 1) callerA)
    (F : ∀ (w : World) (mg : Str → Option Value) (fa : Addr) (h : Heap), YP w h → h.Ns mainGlobals mg → mg d.name = some (.ref fa) →
      ∃ (K : PySem.W.Frag) (N : Nm) (T : Tab) (C : Ck) (f : Nat) (fd : FuncData) (st : Stmt) (ns : List Str) (Fl : Fd), K.In h ∧ (∀ x ∈ blts, mg x = none) ∧ (∀ i y, T.gl i = some y → ∃ v u, mg (C.gn i) = some u ∧ RelV v u ∧ ∀ G, Rep N w K G v y) ∧ (∀ i, C.gl i = true → (T.gl i).isSome = true) ∧
        (∀ f n, C.np f = some n → ∃ fa fd st ns ps F, DefOk l.prog K mg T C f n fa fd st ns ps F) ∧ DefOk l.prog K mg T C f 1 fa fd st ns [x] Fl ∧ (∀ (s : Shared) (u : Value), BindsTo s fd ⟨[u], []⟩ [(x, u)]) ∧
        ∀ is : List Int, is.length ≤ n → ∃ M, callF T (k + 1) f [.d (.scr is)] [] = .ok (.d (.bl true)) M) :
    PySem.W.WalkO q loose XP YP l.row.toRowW d [] (fun f vs => PySem.call f vs) := by
  refine Att.attach_call hn hdf fun w s₀ s₁ mg mb fa o pm cd doc a vs is G Y ho hd hcd hmg hobj hints hlen hg => ?_
  obtain ⟨K, N, T, C, f, fd, st, ns, Fl, KX, hblt, gls, glk, D, dl, hb, plain⟩ := F w mg fa _ Y G.T.g hmg
  refine L2.law_call (CX := L2.CX l.prog w) (sp := spF N w K (callF T (k + 1)) 1 f) KX G.T.g G.T.b G.T.builtins G.T.nolimit hg hobj hints (Nat.le_trans hlen hn2) hr (fun base _ _ => fn_ok hblt gls glk dl (tab_ok hblt gls glk D k)) hb (fun H hO hS => ?_) fun H e s' ⟨_, _, _, _, _, _, _, _, _, _, _, _, z⟩ => z
  obtain ⟨M, hM⟩ := plain is hlen
  refine ⟨[], H, [], [.d (.scr is)], ⟨Sub.refl, rfl, fun n a c h => by simp at h, List.nodup_nil, fun a h => nomatch h⟩, .cons (Rep.scr hS) .nil, rfl, ?_⟩
  rw [hM]
  exact fun H' G' as' s wf x vr => by cases (show Rep N w K G' x (.bl true) from vr); rfl
end Fm
end

/-! ## part text -/
section
set_option maxHeartbeats 4000000
namespace Fm.K1
open PySem PySem.Spec L2
/-! our text of the law -/
abbrev g_MOST_COLUMNS : Nat := 0
abbrev g_MOST_CONTENTS : Nat := 1
abbrev f_is_integer : Nat := 0
abbrev f_is_within : Nat := 1
abbrev f_is_pair : Nat := 2
abbrev f_are_ascending : Nat := 3
abbrev f_are_sizes : Nat := 4
abbrev f_check_sizes : Nat := 5
abbrev f_many_contents : Nat := 6
abbrev f_raw_contents : Nat := 7
abbrev f_contents : Nat := 8
abbrev f_is_pattern : Nat := 9
abbrev f_check_pattern : Nat := 10
abbrev f_is_content : Nat := 11
abbrev f_check_content : Nat := 12
abbrev f_is_raw_box : Nat := 13
abbrev f_is_box : Nat := 14
abbrev f_check_box : Nat := 15
abbrev f_raw_box : Nat := 16
abbrev f_box_at : Nat := 17
abbrev f_is_in : Nat := 18
abbrev f_raw_in_box : Nat := 19
abbrev f_in_box : Nat := 20
abbrev f_box_from : Nat := 21
abbrev f_both : Nat := 22
abbrev f__law_hand : Nat := 23
abbrev f__law_draw : Nat := 24
abbrev f__law_some : Nat := 25
abbrev f__law_sizes : Nat := 26
abbrev f__law_contents : Nat := 27
abbrev f__law_pattern : Nat := 28
abbrev f__law_box : Nat := 29
abbrev f__law_is_in : Nat := 30
abbrev f__law_both : Nat := 31
abbrev f_law : Nat := 32
/-- is_integer: thing -/
def d_is_integer : Fm.Fd := ⟨1, 1, [.ret (.and (.isi (.var 0) .int) (.not (.isi (.var 0) .bool)))]⟩
/-- is_within: thing least most -/
def d_is_within : Fm.Fd := ⟨3, 3, [.ret (.and (.call f_is_integer [.var 0]) (.chain .le .le (.var 1) (.var 0) (.var 2)))]⟩
/-- is_pair: thing -/
def d_is_pair : Fm.Fd := ⟨1, 1, [.ret (.and (.isi (.var 0) .tuple) (.cmp .eq (.pr .len [.var 0]) (.c (.int 2))))]⟩
/-- are_ascending: things at -/
def d_are_ascending : Fm.Fd := ⟨1, 2, [.ret (.pr .all [.lc (.cmp .lt (.ix (.var 0) (.bin .sub (.var 1) (.c (.int 1)))) (.ix (.var 0) (.var 1))) (.v 1) .range2 [.c (.int 1), .pr .len [.var 0]] [] [1]])]⟩
/-- are_sizes: thing size -/
def d_are_sizes : Fm.Fd := ⟨1, 2, [.ifs (.or (.not (.isi (.var 0) .tuple)) (.not (.chain .le .le (.c (.int 1)) (.pr .len [.var 0]) (.g g_MOST_COLUMNS)))) [.ret (.c (.bl false))] [], .ret (.and (.pr .all [.lc (.call f_is_within [.var 1, .c (.int 2), .c (.int 4)]) (.v 1) .seq [.var 0] [] [1]]) (.cmp .le (.call f_many_contents [.var 0]) (.g g_MOST_CONTENTS)))]⟩
/-- check_sizes: thing -/
def d_check_sizes : Fm.Fd := ⟨1, 1, [.ifs (.not (.call f_are_sizes [.var 0])) [.never] []]⟩
/-- many_contents: sizes found size -/
def d_many_contents : Fm.Fd := ⟨1, 3, [.asg (.v 1) (.c (.int 1)), .fors (.v 2) .seq [.var 0] [.asg (.v 1) (.bin .mul (.var 1) (.var 2))], .ret (.var 1)]⟩
/-- raw_contents: sizes found size content worth -/
def d_raw_contents : Fm.Fd := ⟨1, 5, [.own 1 (.lst [.tup []]), .fors (.v 2) .seq [.var 0] [.own 1 (.lc2 (.bin .add (.var 3) (.tup [.var 4])) (.v 3) .seq [.var 1] (.v 4) .range1 [.var 2] [3, 4] [4])], .retmv 1]⟩
/-- contents: sizes -/
def d_contents : Fm.Fd := ⟨1, 1, [.expr (.call f_check_sizes [.var 0]), .ret (.call f_raw_contents [.var 0])]⟩
/-- is_pattern: columns thing c -/
def d_is_pattern : Fm.Fd := ⟨2, 3, [.ret (.and (.isi (.var 1) .tuple) (.and (.pr .all [.lc (.call f_is_within [.var 2, .c (.int 0), .bin .sub (.var 0) (.c (.int 1))]) (.v 2) .seq [.var 1] [] [2]]) (.call f_are_ascending [.var 1])))]⟩
/-- check_pattern: columns thing -/
def d_check_pattern : Fm.Fd := ⟨2, 2, [.ifs (.not (.call f_is_pattern [.var 0, .var 1])) [.never] []]⟩
/-- is_content: sizes thing worth size -/
def d_is_content : Fm.Fd := ⟨2, 4, [.ifs (.or (.not (.isi (.var 1) .tuple)) (.cmp .ne (.pr .len [.var 1]) (.pr .len [.var 0]))) [.ret (.c (.bl false))] [], .ret (.pr .all [.lc (.call f_is_within [.var 2, .c (.int 0), .bin .sub (.var 3) (.c (.int 1))]) (.t [2, 3]) .zip [.var 1, .var 0] [] [2, 3]])]⟩
/-- check_content: sizes thing -/
def d_check_content : Fm.Fd := ⟨2, 2, [.ifs (.not (.call f_is_content [.var 0, .var 1])) [.never] []]⟩
/-- is_raw_box: sizes thing pattern worths at c -/
def d_is_raw_box : Fm.Fd := ⟨2, 6, [.ifs (.or (.not (.call f_is_pair [.var 1])) (.or (.not (.call f_is_pattern [.pr .len [.var 0], .ix (.var 1) (.c (.int 0))])) (.not (.isi (.ix (.var 1) (.c (.int 1))) .tuple)))) [.ret (.c (.bl false))] [], .asg (.t [2, 3]) (.var 1), .ret (.and (.cmp .eq (.pr .len [.var 3]) (.pr .len [.var 2])) (.pr .all [.lc (.call f_is_within [.ix (.var 3) (.var 4), .c (.int 0), .bin .sub (.ix (.var 0) (.var 5)) (.c (.int 1))]) (.t [4, 5]) .enum [.var 2] [] [4, 5]]))]⟩
/-- is_box: sizes thing -/
def d_is_box : Fm.Fd := ⟨2, 2, [.expr (.call f_check_sizes [.var 0]), .ret (.call f_is_raw_box [.var 0, .var 1])]⟩
/-- check_box: sizes thing -/
def d_check_box : Fm.Fd := ⟨2, 2, [.ifs (.not (.call f_is_raw_box [.var 0, .var 1])) [.never] []]⟩
/-- raw_box: pattern content c -/
def d_raw_box : Fm.Fd := ⟨2, 3, [.ret (.tup [.var 0, .pr .tuple [.lc (.ix (.var 1) (.var 2)) (.v 2) .seq [.var 0] [] [2]]])]⟩
/-- box_at: sizes pattern content -/
def d_box_at : Fm.Fd := ⟨3, 3, [.expr (.call f_check_sizes [.var 0]), .expr (.call f_check_pattern [.pr .len [.var 0], .var 1]), .expr (.call f_check_content [.var 0, .var 2]), .ret (.call f_raw_box [.var 1, .var 2])]⟩
/-- is_in: box content -/
def d_is_in : Fm.Fd := ⟨2, 2, [.ret (.cmp .eq (.call f_raw_box [.ix (.var 0) (.c (.int 0)), .var 1]) (.var 0))]⟩
/-- raw_in_box: sizes box content -/
def d_raw_in_box : Fm.Fd := ⟨2, 3, [.ret (.lc (.var 2) (.v 2) .seq [.call f_raw_contents [.var 0]] [.call f_is_in [.var 1, .var 2]] [2])]⟩
/-- in_box: sizes box -/
def d_in_box : Fm.Fd := ⟨2, 2, [.expr (.call f_check_sizes [.var 0]), .expr (.call f_check_box [.var 0, .var 1]), .ret (.call f_raw_in_box [.var 0, .var 1])]⟩
/-- box_from: worths pattern c -/
def d_box_from : Fm.Fd := ⟨1, 3, [.asg (.v 1) (.pr .tuple [.pr .sorted [.var 0]]), .ret (.tup [.var 1, .pr .tuple [.lc (.ix (.var 0) (.var 2)) (.v 2) .seq [.var 1] [] [2]]])]⟩
/-- both: sizes box other worths c worth -/
def d_both : Fm.Fd := ⟨3, 6, [.expr (.call f_check_sizes [.var 0]), .expr (.call f_check_box [.var 0, .var 1]), .expr (.call f_check_box [.var 0, .var 2]), .own 3 (.dzip [.ix (.var 1) (.c (.int 0)), .ix (.var 1) (.c (.int 1))]), .fors (.t [4, 5]) .zip [.ix (.var 2) (.c (.int 0)), .ix (.var 2) (.c (.int 1))] [.ifs (.cmp .ne (.mt .get2 (.var 3) [.var 4, .var 5]) (.var 5)) [.ret (.c .non)] [], .setix 3 (.var 4) (.var 5)], .frz 3, .ret (.call f_box_from [.var 3])]⟩
/-- _law_hand: _law_script _law_cells _law_cell -/
def d__law_hand : Fm.Fd := ⟨1, 3, [.asg (.v 1) (.lc (.pr .abs [.pr .int [.var 2]]) (.v 2) .seq [.sl (.var 0) [] [.c (.int 63)]] [] [2]), .ret (.mlst [.var 1, .c (.int 0), .c (.int 0), .bin .add (.c (.int 1)) (.pr .len [.var 1]), .c (.int 0)])]⟩
/-- _law_draw: _law_hand_here _law_many _law_cell _law_digit _law_number -/
def d__law_draw : Fm.Fd := ⟨2, 5, [.ifs (.and (.cmp .eq (.ix (.var 0) (.c (.int 2))) (.c (.int 0))) (.cmp .lt (.ix (.var 0) (.c (.int 1))) (.pr .len [.ix (.var 0) (.c (.int 0))]))) [.asg (.v 2) (.ix (.ix (.var 0) (.c (.int 0))) (.ix (.var 0) (.c (.int 1)))), .setixm (.var 0) (.c (.int 1)) (.bin .add (.ix (.var 0) (.c (.int 1))) (.c (.int 1))), .setixm (.var 0) (.c (.int 3)) (.bin .mod (.pr .int [.bin .add (.bin .add (.bin .mul (.ix (.var 0) (.c (.int 3))) (.c (.int 69621))) (.var 2)) (.c (.int 11))]) (.c (.int 2147483629))), .ifs (.cmp .ge (.var 2) (.bin .pow (.c (.int 10)) (.c (.int 18)))) [.setixm (.var 0) (.c (.int 2)) (.var 2)] []] [], .ifs (.cmp .gt (.ix (.var 0) (.c (.int 2))) (.c (.int 0))) [.asg (.v 3) (.bin .mod (.pr .int [.ix (.var 0) (.c (.int 2))]) (.var 1)), .setixm (.var 0) (.c (.int 2)) (.bin .fdiv (.ix (.var 0) (.c (.int 2))) (.var 1)), .ret (.var 3)] [], .setixm (.var 0) (.c (.int 4)) (.bin .add (.ix (.var 0) (.c (.int 4))) (.c (.int 1))), .asg (.v 4) (.bin .mod (.pr .int [.bin .mul (.pr .int [.bin .add (.ix (.var 0) (.c (.int 3))) (.bin .mul (.c (.int 7919)) (.ix (.var 0) (.c (.int 4))))]) (.c (.int 48271))]) (.c (.int 2147483647))), .asg (.v 4) (.bin .mod (.pr .int [.bin .mul (.var 4) (.bin .add (.bin .fdiv (.var 4) (.c (.int 1009))) (.c (.int 69621)))]) (.c (.int 2147483647))), .asg (.v 4) (.bin .mod (.pr .int [.bin .mul (.var 4) (.bin .add (.bin .fdiv (.var 4) (.c (.int 2003))) (.c (.int 40692)))]) (.c (.int 2147483399))), .ret (.bin .mod (.pr .int [.bin .fdiv (.var 4) (.c (.int 16))]) (.var 1))]⟩
/-- _law_some: _law_hand_here _law_things -/
def d__law_some : Fm.Fd := ⟨2, 2, [.ret (.ix (.var 1) (.call f__law_draw [.var 0, .pr .len [.var 1]]))]⟩
/-- _law_sizes: _law_hand_here -/
def d__law_sizes : Fm.Fd := ⟨1, 1, [.ifs (.cmp .eq (.call f__law_draw [.var 0, .c (.int 12)]) (.c (.int 0))) [.ret (.call f__law_some [.var 0, .lst [.tup [.c (.int 2), .c (.int 2), .c (.int 2), .c (.int 2), .c (.int 2)], .tup [.c (.int 4), .c (.int 4)], .tup [.c (.int 3), .c (.int 3), .c (.int 2)], .tup [.c (.int 2), .c (.int 4), .c (.int 2), .c (.int 2)], .tup [.c (.int 4), .c (.int 4), .c (.int 4)]]])] [], .ret (.call f__law_some [.var 0, .lst [.tup [.c (.int 2), .c (.int 2), .c (.int 2)], .tup [.c (.int 2), .c (.int 3), .c (.int 2)], .tup [.c (.int 3), .c (.int 2), .c (.int 2)], .tup [.c (.int 2), .c (.int 2)], .tup [.c (.int 3), .c (.int 2)], .tup [.c (.int 2), .c (.int 2), .c (.int 3)], .tup [.c (.int 4)], .tup [.c (.int 2), .c (.int 2), .c (.int 2), .c (.int 2)], .tup [.c (.int 2)]]])]⟩
/-- _law_contents: _law_sizes_here _law_found _law_size _law_longer _law_content _law_worth -/
def d__law_contents : Fm.Fd := ⟨1, 6, [.asg (.v 1) (.lst [.tup []]), .fors (.v 2) .seq [.var 0] [.own 3 (.lst []), .fors (.v 4) .seq [.var 1] [.mu .extend 3 [.lc (.bin .add (.var 4) (.tup [.var 5])) (.v 5) .range1 [.var 2] [] [5]]], .frz 3, .asg (.v 1) (.var 3)], .ret (.var 1)]⟩
/-- _law_pattern: _law_hand_here _law_columns _law_c -/
def d__law_pattern : Fm.Fd := ⟨2, 3, [.ret (.pr .tuple [.lc (.var 2) (.v 2) .range1 [.var 1] [.cmp .eq (.call f__law_draw [.var 0, .c (.int 2)]) (.c (.int 0))] [2]])]⟩
/-- _law_box: _law_pattern_here _law_content _law_c -/
def d__law_box : Fm.Fd := ⟨2, 3, [.ret (.tup [.var 0, .pr .tuple [.lc (.ix (.var 1) (.var 2)) (.v 2) .seq [.var 0] [] [2]]])]⟩
/-- _law_is_in: _law_box_here _law_content -/
def d__law_is_in : Fm.Fd := ⟨2, 2, [.ret (.cmp .eq (.call f__law_box [.ix (.var 0) (.c (.int 0)), .var 1]) (.var 0))]⟩
/-- _law_both: _law_box_here _law_other _law_worths _law_c _law_worth -/
def d__law_both : Fm.Fd := ⟨2, 5, [.own 2 (.dzip [.ix (.var 0) (.c (.int 0)), .ix (.var 0) (.c (.int 1))]), .fors (.t [3, 4]) .zip [.ix (.var 1) (.c (.int 0)), .ix (.var 1) (.c (.int 1))] [.ifs (.cmp .ne (.mt .get2 (.var 2) [.var 3, .var 4]) (.var 4)) [.ret (.c .non)] [], .setix 2 (.var 3) (.var 4)], .ret (.tup [.pr .tuple [.pr .sorted [.var 2]], .pr .tuple [.lc (.ix (.var 2) (.var 3)) (.v 3) .seq [.pr .sorted [.var 2]] [] [3]]])]⟩
/-- law: _law_script _law_hand_here _law_turn _law_sizes_here _law_every _law_told _law_step _law_box_here _law_other _law_content _law_inside _law_meet _law_common _law_one -/
def d_law : Fm.Fd := ⟨1, 14, [.asg (.v 1) (.call f__law_hand [.var 0]), .fors (.v 2) .range1 [.c (.int 3)] [.asg (.v 3) (.call f__law_sizes [.var 1]), .asg (.v 4) (.call f__law_contents [.var 3]), .own 5 (.call f_contents [.var 3]), .ifs (.or (.cmp .ne (.var 5) (.var 4)) (.not (.isi (.var 5) .list))) [.ret (.c (.bl false))] [], .mu .clear 5 [], .ifs (.cmp .ne (.call f_contents [.var 3]) (.var 4)) [.ret (.c (.bl false))] [], .fors (.v 6) .range1 [.c (.int 5)] [.asg (.v 7) (.call f__law_box [.call f__law_pattern [.var 1, .pr .len [.var 3]], .call f__law_some [.var 1, .var 4]]), .asg (.v 8) (.call f__law_box [.call f__law_pattern [.var 1, .pr .len [.var 3]], .call f__law_some [.var 1, .var 4]]), .asg (.v 9) (.call f__law_some [.var 1, .var 4]), .ifs (.or (.cmp .ne (.call f_box_at [.var 3, .ix (.var 7) (.c (.int 0)), .var 9]) (.call f__law_box [.ix (.var 7) (.c (.int 0)), .var 9])) (.cmp .isnot (.call f_is_box [.var 3, .var 7]) (.c (.bl true)))) [.ret (.c (.bl false))] [], .asg (.v 10) (.call f_in_box [.var 3, .var 7]), .ifs (.or (.cmp .ne (.var 10) (.lc (.var 13) (.v 13) .seq [.var 4] [.call f__law_is_in [.var 7, .var 13]] [13])) (.not (.isi (.var 10) .list))) [.ret (.c (.bl false))] [], .asg (.v 11) (.call f_both [.var 3, .var 7, .var 8]), .ifs (.or (.cmp .ne (.var 11) (.call f__law_both [.var 7, .var 8])) (.or (.cmp .ne (.call f_both [.var 3, .var 8, .var 7]) (.var 11)) (.cmp .ne (.call f_both [.var 3, .var 7, .var 7]) (.var 7)))) [.ret (.c (.bl false))] [], .asg (.v 12) (.lc (.var 13) (.v 13) .seq [.var 10] [.call f__law_is_in [.var 8, .var 13]] [13]), .ifs (.or (.cmp .ne (.cmp .is (.var 11) (.c .non)) (.cmp .eq (.var 12) (.lst []))) (.and (.cmp .isnot (.var 11) (.c .non)) (.cmp .ne (.call f_in_box [.var 3, .var 11]) (.var 12)))) [.ret (.c (.bl false))] [], .ifs (.or (.cmp .ne (.call f_both [.var 3, .var 7, .tup [.tup [], .tup []]]) (.var 7)) (.cmp .ne (.call f_in_box [.var 3, .tup [.tup [], .tup []]]) (.var 4))) [.ret (.c (.bl false))] []]], .ret (.c (.bl true))]⟩
def tabFn : Nat → Option Fd
  | 0 => some d_is_integer
  | 1 => some d_is_within
  | 2 => some d_is_pair
  | 3 => some d_are_ascending
  | 4 => some d_are_sizes
  | 5 => some d_check_sizes
  | 6 => some d_many_contents
  | 7 => some d_raw_contents
  | 8 => some d_contents
  | 9 => some d_is_pattern
  | 10 => some d_check_pattern
  | 11 => some d_is_content
  | 12 => some d_check_content
  | 13 => some d_is_raw_box
  | 14 => some d_is_box
  | 15 => some d_check_box
  | 16 => some d_raw_box
  | 17 => some d_box_at
  | 18 => some d_is_in
  | 19 => some d_raw_in_box
  | 20 => some d_in_box
  | 21 => some d_box_from
  | 22 => some d_both
  | 23 => some d__law_hand
  | 24 => some d__law_draw
  | 25 => some d__law_some
  | 26 => some d__law_sizes
  | 27 => some d__law_contents
  | 28 => some d__law_pattern
  | 29 => some d__law_box
  | 30 => some d__law_is_in
  | 31 => some d__law_both
  | 32 => some d_law
  | _ => none
def tabGl : Nat → Option Fm.D
  | 0 => some (.int 5)
  | 1 => some (.int 256)
  | _ => none
def tab : Tab := ⟨tabFn, tabGl, fun _ => none⟩
end Fm.K1
end

/-! ## part KP -/
section
set_option maxHeartbeats 4000000
namespace Fm
open PySem

/-! ### running our text: each form in one step -/
def rd (o : Option (Option Val)) (M : Mem) : Res Val := match o with
  | some (some (.o x)) => .ok (.b x) M
  | some (some v) => .ok v M
  | _ => .bad
section
variable {T : Tab} {call : CallF} {ρ : Env} {M : Mem}
@[simp] theorem rd_d (x : D) : rd (some (some (.d x))) M = .ok (.d x) M := Eq.trans rfl rfl
@[simp] theorem rd_o (x : D) : rd (some (some (.o x))) M = .ok (.b x) M := Eq.trans rfl rfl
@[simp] theorem rd_r (n : Nat) : rd (some (some (.r n))) M = .ok (.r n) M := Eq.trans rfl rfl
@[simp] theorem ev_var (i : Nat) : eval T call (.var i) ρ M = rd ρ[i]? M := by rw [eval]; rfl
@[simp] theorem ev_c (x : D) : eval T call (.c x) ρ M = .ok (.d x) M := by rw [eval]
@[simp] theorem ev_g (i : Nat) : eval T call (.g i) ρ M = (Res.of (T.gl i) M).bind fun x M => .ok (.d x) M := by rw [eval]
@[simp] theorem ev_tup (es : List E) : eval T call (.tup es) ρ M = (evalDs T call es ρ M).bind fun xs M => if fits xs.length then .ok (.d (.tup xs)) M else .bad := by rw [eval]
@[simp] theorem ev_lst (es : List E) : eval T call (.lst es) ρ M = (evalDs T call es ρ M).bind fun xs M => if fits xs.length then .ok (.o (.lst xs)) M else .bad := by rw [eval]
@[simp] theorem ev_mlst (es : List E) : eval T call (.mlst es) ρ M = (evalAs T call es ρ M).bind fun xs M => if fits xs.length then .ok (.r M.length) (M ++ [.lst xs]) else .bad := by rw [eval]
@[simp] theorem ev_not (a : E) : eval T call (.not a) ρ M = (eval T call a ρ M).bind fun v M => (Res.of v.truth M).bind fun t M => .ok (.d (.bl !t)) M := by rw [eval]
def andK (call : Mem → Res Val) (v : Val) (M : Mem) : Res Val := match v with
  | .d (.bl t) => if t then call M else .ok (.d (.bl false)) M
  | _ => .bad
def orK (call : Mem → Res Val) (v : Val) (M : Mem) : Res Val := match v with
  | .d (.bl t) => if t then .ok (.d (.bl true)) M else call M
  | _ => .bad
@[simp] theorem andK_bl (k : Mem → Res Val) (t : Bool) : andK k (.d (.bl t)) M = if t then k M else .ok (.d (.bl false)) M := Eq.trans rfl rfl
@[simp] theorem orK_bl (k : Mem → Res Val) (t : Bool) : orK k (.d (.bl t)) M = if t then .ok (.d (.bl true)) M else k M := Eq.trans rfl rfl
@[simp] theorem ev_and (a b : E) : eval T call (.and a b) ρ M = (eval T call a ρ M).bind (andK fun M => eval T call b ρ M) := by rw [eval]; rfl
@[simp] theorem ev_or (a b : E) : eval T call (.or a b) ρ M = (eval T call a ρ M).bind (orK fun M => eval T call b ρ M) := by rw [eval]; rfl
@[simp] theorem ev_bin (o : BOp) (a b : E) : eval T call (.bin o a b) ρ M = (eval T call a ρ M).bind fun x M => (Res.of x.peek M).bind fun x M => (eval T call b ρ M).bind fun y M => (Res.of y.peek M).bind fun y M => Res.of (binD o x y) M := by rw [eval]
@[simp] theorem ev_cmp (o : COp) (a b : E) : eval T call (.cmp o a b) ρ M = (eval T call a ρ M).bind fun x M => (Res.of x.peek M).bind fun x M => (eval T call b ρ M).bind fun y M => (Res.of y.peek M).bind fun y M => (Res.of (cmpD o x y) M).bind fun t M => .ok (.d (.bl t)) M := by rw [eval]
@[simp] theorem ev_chain (o p : COp) (a b c : E) : eval T call (.chain o p a b c) ρ M = (eval T call a ρ M).bind fun x M => (Res.of x.peek M).bind fun x M => (eval T call b ρ M).bind fun y M => (Res.of y.peek M).bind fun y M => (Res.of (cmpD o x y) M).bind fun t M =>
    if t then (eval T call c ρ M).bind fun z M => (Res.of z.peek M).bind fun z M => (Res.of (cmpD p y z) M).bind fun t M => .ok (.d (.bl t)) M
    else .ok (.d (.bl false)) M := by rw [eval]
@[simp] theorem ev_call (f : Nat) (es : List E) : eval T call (.call f es) ρ M = (evalAs T call es ρ M).bind fun xs M => call f xs M := by rw [eval]
@[simp] theorem ev_pr (p : Pr) (es : List E) : eval T call (.pr p es) ρ M = (evalPs T call es ρ M).bind fun xs M => Res.of (prD p xs) M := by rw [eval]
@[simp] theorem ev_mt (m : Mt) (a : E) (es : List E) : eval T call (.mt m a es) ρ M = (eval T call a ρ M).bind fun v M => (Res.of v.peek M).bind fun x M => if mtOk m x then (evalDs T call es ρ M).bind fun xs M => Res.of (mtD m x xs) M else .bad := by rw [eval]
@[simp] theorem ev_isi (a : E) (t : Ty) : eval T call (.isi a t) ρ M = (eval T call a ρ M).bind fun v M => (Res.of v.peek M).bind fun x M => (Res.of (isT t x) M).bind fun t M => .ok (.d (.bl t)) M := by rw [eval]
@[simp] theorem ev_dzip (es : List E) : eval T call (.dzip es) ρ M = (evalPs T call es ρ M).bind fun xs M => (Res.of (dzipD xs) M).bind fun x M => .ok (.o x) M := by rw [eval]
@[simp] theorem ev_sl (a : E) (lo hi : List E) : eval T call (.sl a lo hi) ρ M = (eval T call a ρ M).bind fun v M => (Res.of v.peek M).bind fun x M => (evalO T call lo ρ M).bind fun l M => (evalO T call hi ρ M).bind fun h M => Res.of (slD x l h) M := by rw [eval]
def ixK (v k : Val) (M : Mem) : Res Val := match v with
  | .r n => match M[n]?, k with
    | some (.lst xs), .d (.int i) => Res.of ((ixAt xs.length i).bind (xs[·]?)) M
    | _, _ => .bad
  | v => (Res.of v.peek M).bind fun x M => (Res.of k.peek M).bind fun k M => (Res.of (ixD x k) M).bind fun y M => .ok (.d y) M
@[simp] theorem ixK_d (x : D) (k : Val) : ixK (.d x) k M = (Res.of k.peek M).bind fun k M => (Res.of (ixD x k) M).bind fun y M => .ok (.d y) M := Eq.trans rfl rfl
@[simp] theorem ixK_o (x : D) (k : Val) : ixK (.o x) k M = (Res.of k.peek M).bind fun k M => (Res.of (ixD x k) M).bind fun y M => .ok (.d y) M := Eq.trans rfl rfl
@[simp] theorem ixK_b (x : D) (k : Val) : ixK (.b x) k M = (Res.of k.peek M).bind fun k M => (Res.of (ixD x k) M).bind fun y M => .ok (.d y) M := Eq.trans rfl rfl
@[simp] theorem ev_ix (a i : E) : eval T call (.ix a i) ρ M = (eval T call a ρ M).bind fun v M => (eval T call i ρ M).bind fun k M => ixK v k M := by
  rw [eval]
  rfl
@[simp] theorem ev_lc (e : E) (tg : Tg) (k : Ik) (args ifs : List E) (own : List Nat) : eval T call (.lc e tg k args ifs own) ρ M = (evalPs T call args ρ M).bind fun xs M => (Res.of (turns k xs) M).bind fun its M =>
      (lcGo (fun x => tg.bind x (wipeE ρ own)) (fun ρ M => (evalAll T call ifs ρ M).nox) (fun ρ M => ((eval T call e ρ M).bind fun v M => Res.of v.toD M).nox) its [] M).bind fun ys M => .ok (.o (.lst ys)) M := by rw [eval]
@[simp] theorem ds_nil : evalDs T call [] ρ M = .ok [] M := by rw [evalDs]
@[simp] theorem ds_cons (e : E) (es : List E) : evalDs T call (e :: es) ρ M = (eval T call e ρ M).bind fun v M => (Res.of v.toD M).bind fun x M => (evalDs T call es ρ M).bind fun xs M => .ok (x :: xs) M := by rw [evalDs]
@[simp] theorem ps_nil : evalPs T call [] ρ M = .ok [] M := by rw [evalPs]
@[simp] theorem ps_cons (e : E) (es : List E) : evalPs T call (e :: es) ρ M = (eval T call e ρ M).bind fun v M => (Res.of v.peek M).bind fun x M => (evalPs T call es ρ M).bind fun xs M => .ok (x :: xs) M := by rw [evalPs]
@[simp] theorem as_nil : evalAs T call [] ρ M = .ok [] M := by rw [evalAs]
@[simp] theorem as_cons (e : E) (es : List E) : evalAs T call (e :: es) ρ M = (eval T call e ρ M).bind fun v M => (Res.of v.toArg M).bind fun x M => (evalAs T call es ρ M).bind fun xs M => .ok (x :: xs) M := by rw [evalAs]
@[simp] theorem all_nil : evalAll T call [] ρ M = .ok true M := by rw [evalAll]
@[simp] theorem all_cons (e : E) (es : List E) : evalAll T call (e :: es) ρ M = (eval T call e ρ M).bind fun v M => (Res.of v.truth M).bind fun t M => if t then evalAll T call es ρ M else .ok false M := by rw [evalAll]
@[simp] theorem o_nil : evalO T call [] ρ M = .ok none M := by rw [evalO]
def oK (v : Val) (M : Mem) : Res (Option Int) := match v with
  | .d (.int i) => .ok (some i) M
  | _ => .bad
@[simp] theorem oK_int (i : Int) : oK (.d (.int i)) M = .ok (some i) M := Eq.trans rfl rfl
@[simp] theorem o_cons (e : E) (es : List E) : evalO T call (e :: es) ρ M = (eval T call e ρ M).bind oK := by rw [evalO]; rfl
/-! statements -/
@[simp] theorem xs_nil : execs T call [] ρ M = .ok .nx ρ M := by rw [execs]
@[simp] theorem xs_cons (s : S) (ss : List S) : execs T call (s :: ss) ρ M = (exec T call s ρ M).nx fun ρ M => execs T call ss ρ M := by rw [execs]
@[simp] theorem x_asg (i : Nat) (e : E) : exec T call (.asg (.v i) e) ρ M = (eval T call e ρ M).go ρ fun v M => (Res.of v.toArg M).go ρ fun v M => .ok .nx (ρ.set i (some v)) M := by rw [exec]
@[simp] theorem x_asgT (is : List Nat) (e : E) : exec T call (.asg (.t is) e) ρ M = (eval T call e ρ M).go ρ fun v M => (Res.of v.toD M).go ρ fun x M => (Res.of (Tg.bind (.t is) x ρ) M).go ρ fun ρ M => .ok .nx ρ M := by rw [exec]
def ownK (i : Nat) (ρ : Env) (v : Val) (M : Mem) : RS := match v with
  | .o x => .ok .nx (ρ.set i (some (.o x))) M
  | _ => .bad
@[simp] theorem ownK_o (i : Nat) (x : D) : ownK i ρ (.o x) M = .ok .nx (ρ.set i (some (.o x))) M := Eq.trans rfl rfl
@[simp] theorem x_own (i : Nat) (e : E) : exec T call (.own i e) ρ M = (eval T call e ρ M).go ρ (ownK i ρ) := by rw [exec]; rfl
def frzK (i : Nat) (ρ : Env) (o : Option (Option Val)) (M : Mem) : RS := match o with
  | some (some (.o x)) => .ok .nx (ρ.set i (some (.d x))) M
  | _ => .bad
@[simp] theorem frzK_o (i : Nat) (x : D) : frzK i ρ (some (some (.o x))) M = .ok .nx (ρ.set i (some (.d x))) M := Eq.trans rfl rfl
@[simp] theorem x_frz (i : Nat) : exec T call (.frz i) ρ M = frzK i ρ ρ[i]? M := by rw [exec]; rfl
@[simp] theorem x_kill (is : List Nat) : exec T call (.kill is) ρ M = .ok .nx (wipeE ρ is) M := by rw [exec]
@[simp] theorem x_ret (e : E) : exec T call (.ret e) ρ M = (eval T call e ρ M).go ρ fun v M => .ok (.ret v) ρ M := by rw [exec]
def rmK (ρ : Env) (o : Option (Option Val)) (M : Mem) : RS := match o with
  | some (some (.o x)) => .ok (.ret (.o x)) ρ M
  | _ => .bad
@[simp] theorem rmK_o (x : D) : rmK ρ (some (some (.o x))) M = .ok (.ret (.o x)) ρ M := Eq.trans rfl rfl
@[simp] theorem x_retmv (i : Nat) : exec T call (.retmv i) ρ M = rmK ρ ρ[i]? M := by rw [exec]; rfl
@[simp] theorem x_expr (e : E) : exec T call (.expr e) ρ M = (eval T call e ρ M).go ρ fun _ M => .ok .nx ρ M := by rw [exec]
@[simp] theorem x_ifs (c : E) (a b : List S) : exec T call (.ifs c a b) ρ M = (eval T call c ρ M).go ρ fun v M => (Res.of v.truth M).go ρ fun t M => if t then execs T call a ρ M else execs T call b ρ M := by rw [exec]
@[simp] theorem x_fors (tg : Tg) (k : Ik) (args : List E) (body : List S) : exec T call (.fors tg k args body) ρ M = (evalDs T call args ρ M).go ρ fun xs M => (Res.of (turns k xs) M).go ρ fun its M => forGo tg.bind (fun ρ M => execs T call body ρ M) its ρ M := by rw [exec]
@[simp] theorem x_pas : exec T call .pas ρ M = .ok .nx ρ M := by rw [exec]
@[simp] theorem x_never : exec T call .never ρ M = .bad := by rw [exec]
def muK (m : Mu) (i : Nat) (ev : Mem → Res (List D)) (ρ : Env) (o : Option (Option Val)) (M : Mem) : RS := match o with
  | some (some (.o (.lst xs))) => (ev M).go ρ fun ys M => (Res.of (muD m xs ys) M).go ρ fun xs M => .ok .nx (ρ.set i (some (.o (.lst xs)))) M
  | _ => .bad
@[simp] theorem muK_o (m : Mu) (i : Nat) (ev : Mem → Res (List D)) (xs : List D) : muK m i ev ρ (some (some (.o (.lst xs)))) M = (ev M).go ρ fun ys M => (Res.of (muD m xs ys) M).go ρ fun xs M => .ok .nx (ρ.set i (some (.o (.lst xs)))) M := Eq.trans rfl rfl
@[simp] theorem x_mu (m : Mu) (i : Nat) (es : List E) : exec T call (.mu m i es) ρ M = muK m i (fun M => evalDs T call es ρ M) ρ ρ[i]? M := by rw [exec]; rfl
def setK (i : Nat) (ev : Mem → Res Val) (ρ : Env) (y : D) (o : Option (Option Val)) (M : Mem) : RS := match o with
  | some (some (.o x)) => (ev M).go ρ fun k M => (Res.of k.toD M).go ρ fun k M => (Res.of (setD x k y) M).go ρ fun x M => .ok .nx (ρ.set i (some (.o x))) M
  | _ => .bad
@[simp] theorem setK_o (i : Nat) (ev : Mem → Res Val) (y x : D) : setK i ev ρ y (some (some (.o x))) M = (ev M).go ρ fun k M => (Res.of k.toD M).go ρ fun k M => (Res.of (setD x k y) M).go ρ fun x M => .ok .nx (ρ.set i (some (.o x))) M := Eq.trans rfl rfl
@[simp] theorem x_setix (i : Nat) (k e : E) : exec T call (.setix i k e) ρ M = (eval T call e ρ M).go ρ fun v M => (Res.of v.toD M).go ρ fun y M => setK i (fun M => eval T call k ρ M) ρ y ρ[i]? M := by rw [exec]; rfl
def setmK (ρ : Env) (y v k : Val) (M : Mem) : RS := match v, k with
  | .r n, .d (.int i) => match M[n]? with
    | some (.lst xs) => (Res.of (ixAt xs.length i) M).go ρ fun j M => .ok .nx ρ (M.set n (.lst (xs.set j y)))
    | _ => .bad
  | _, _ => .bad
@[simp] theorem x_setixm (x k e : E) : exec T call (.setixm x k e) ρ M = (eval T call e ρ M).go ρ fun v M => (Res.of v.toArg M).go ρ fun y M => (eval T call x ρ M).go ρ fun v M => (eval T call k ρ M).go ρ fun k M => setmK ρ y v k M := by rw [exec]; rfl
/-! values -/
@[simp] theorem peek_d (x : D) : (Val.d x).peek = some x := Eq.trans rfl rfl
@[simp] theorem peek_o (x : D) : (Val.o x).peek = some x := Eq.trans rfl rfl
@[simp] theorem peek_b (x : D) : (Val.b x).peek = some x := Eq.trans rfl rfl
@[simp] theorem toD_d (x : D) : (Val.d x).toD = some x := Eq.trans rfl rfl
@[simp] theorem toD_o (x : D) : (Val.o x).toD = some x := Eq.trans rfl rfl
@[simp] theorem toArg_d (x : D) : (Val.d x).toArg = some (.d x) := Eq.trans rfl rfl
@[simp] theorem toArg_o (x : D) : (Val.o x).toArg = some (.d x) := Eq.trans rfl rfl
@[simp] theorem toArg_r (n : Nat) : (Val.r n).toArg = some (.r n) := Eq.trans rfl rfl
@[simp] theorem truth_bl (b : Bool) : (Val.d (.bl b)).truth = some b := Eq.trans rfl rfl
@[simp] theorem cmp_le (a b : Int) : cmpD .le (.int a) (.int b) = some (decide (a ≤ b)) := Eq.trans rfl rfl
@[simp] theorem cmp_lt (a b : Int) : cmpD .lt (.int a) (.int b) = some (decide (a < b)) := Eq.trans rfl rfl
@[simp] theorem cmp_gt (a b : Int) : cmpD .gt (.int a) (.int b) = some (decide (b < a)) := Eq.trans rfl rfl
@[simp] theorem cmp_ge (a b : Int) : cmpD .ge (.int a) (.int b) = some (decide (b ≤ a)) := Eq.trans rfl rfl
@[simp] theorem cmp_eqI (a b : Int) : cmpD .eq (.int a) (.int b) = some (decide (a = b)) := by
  simp [cmpD, cmpEq, D.eqOk, D.plain, D.depth, D.eqv]
  by_cases h : a = b <;> simp [h]
@[simp] theorem cmp_neI (a b : Int) : cmpD .ne (.int a) (.int b) = some (!decide (a = b)) := by
  simp [cmpD, cmpEq, D.eqOk, D.plain, D.depth, D.eqv]
  by_cases h : a = b <;> simp [h]
@[simp] theorem cmp_eqB (a b : Bool) : cmpD .eq (.bl a) (.bl b) = some (a == b) := by
  show cmpEq _ _ = _
  simp [cmpEq, D.eqOk, D.plain, D.depth, D.eqv]
@[simp] theorem cmp_neB (a b : Bool) : cmpD .ne (.bl a) (.bl b) = some (!(a == b)) := by
  simp [cmpD, cmpEq, D.eqOk, D.plain, D.depth, D.eqv]
@[simp] theorem bin_add (a b : Int) : binD .add (.int a) (.int b) = some (.d (.int (a + b))) := Eq.trans rfl rfl
@[simp] theorem bin_sub (a b : Int) : binD .sub (.int a) (.int b) = some (.d (.int (a - b))) := Eq.trans rfl rfl
@[simp] theorem len_tup (xs : List D) : prD .len [.tup xs] = some (.d (.int xs.length)) := Eq.trans rfl rfl
@[simp] theorem len_lst (xs : List D) : prD .len [.lst xs] = some (.d (.int xs.length)) := Eq.trans rfl rfl
@[simp] theorem tuple_lst (xs : List D) : prD .tuple [.lst xs] = some (.d (.tup xs)) := Eq.trans rfl rfl
@[simp] theorem int_int (i : Int) : prD .int [.int i] = some (.d (.int i)) := Eq.trans rfl rfl
@[simp] theorem isT_int_int (i : Int) : isT .int (.int i) = some true := Eq.trans rfl rfl
@[simp] theorem isT_bool_int (i : Int) : isT .bool (.int i) = some false := Eq.trans rfl rfl
@[simp] theorem isT_tup (xs : List D) : isT .tuple (.tup xs) = some true := Eq.trans rfl rfl
@[simp] theorem isT_lst (xs : List D) : isT .list (.lst xs) = some true := Eq.trans rfl rfl
@[simp] theorem truth_d (d : D) : (Val.d d).truth = d.truth := Eq.trans rfl rfl
@[simp] theorem truth_o (d : D) : (Val.o d).truth = d.truth := Eq.trans rfl rfl
end
@[simp] theorem dtruth_bl (b : Bool) : (D.bl b).truth = some b := Eq.trans rfl rfl
theorem fits_of {n : Nat} (h : n ≤ 4096) : fits n = true := by
  unfold fits
  rw [decide_eq_true_eq, sizeLine_eq]
  omega
/-- a walk that changes nothing -/
theorem lcGo_pure {α : Type} {bind : D → Option Env} {test : Env → Mem → Res Bool} {elt : Env → Mem → Res D} {M : Mem} (e : α → D) (p : α → Bool) (g : α → D) : ∀ (xs : List α) (acc : List D),
    (∀ x ∈ xs, ∃ ρ, bind (e x) = some ρ ∧ test ρ M = .ok (p x) M ∧ (p x = true → elt ρ M = .ok (g x) M)) → acc.length + xs.length ≤ 4096 → lcGo bind test elt (xs.map e) acc M = .ok (acc ++ (xs.filter p).map g) M
  | [], acc, _, _ => by simp [lcGo]
  | x :: xs, acc, h, hl => by
    obtain ⟨ρ, h1, h2, h3⟩ := h x List.mem_cons_self
    have hl' : acc.length + xs.length ≤ 4096 := by simp at hl; omega
    rw [List.map_cons, lcGo, h1, Res.of_some, Res.bind_ok, h2, Res.bind_ok]
    cases hp : p x with
    | false =>
      rw [if_neg Bool.false_ne_true, lcGo_pure e p g xs acc (fun y hy => h y (List.mem_cons_of_mem _ hy)) hl', List.filter_cons_of_neg (by rw [hp]; exact Bool.false_ne_true)]
    | true =>
      have hs : acc.length < sizeLine := by rw [sizeLine_eq]; simp at hl; omega
      rw [if_pos rfl, h3 hp, Res.bind_ok, if_pos hs, lcGo_pure e p g xs (acc ++ [g x]) (fun y hy => h y (List.mem_cons_of_mem _ hy)) (by simp at hl ⊢; omega), List.filter_cons_of_pos hp, List.map_cons, List.append_assoc]
      rfl
theorem lcGo_map {α : Type} {bind : D → Option Env} {test : Env → Mem → Res Bool} {elt : Env → Mem → Res D} {M : Mem} (e : α → D) (g : α → D) (xs : List α) (acc : List D)
    (h : ∀ x ∈ xs, ∃ ρ, bind (e x) = some ρ ∧ test ρ M = .ok true M ∧ elt ρ M = .ok (g x) M) (hl : acc.length + xs.length ≤ 4096) : lcGo bind test elt (xs.map e) acc M = .ok (acc ++ xs.map g) M := by
  rw [lcGo_pure e (fun _ => true) g xs acc (fun x hx => by obtain ⟨ρ, h1, h2, h3⟩ := h x hx; exact ⟨ρ, h1, h2, fun _ => h3⟩) hl]
  rw [List.filter_eq_self.mpr fun _ _ => rfl]
theorem flagsD_map {α : Type} (f : α → Bool) : ∀ xs : List α, flagsD (xs.map fun x => D.bl (f x)) = some (xs.map f)
  | [] => rfl
  | x :: xs => by rw [List.map_cons, flagsD, flagsD_map f xs]; rfl
theorem all_map {α : Type} (f : α → Bool) (xs : List α) : prD .all [.lst (xs.map fun x => D.bl (f x))] = some (.d (.bl (xs.all f))) := by
  show (flagsD _).map _ = _
  rw [flagsD_map]
  simp [List.all_map]
end Fm
end

/-! ## part KQ -/
section
set_option maxHeartbeats 1000000
namespace Fm
open PySem
@[simp] theorem bind_v (i : Nat) (x : D) (ρ : Env) : (Tg.v i).bind x ρ = some (ρ.set i (some (.d x))) := Eq.trans rfl rfl
@[simp] theorem wipeE_nil (ρ : Env) : wipeE ρ [] = ρ := Eq.trans rfl rfl
@[simp] theorem wipeE_cons (ρ : Env) (i : Nat) (is : List Nat) : wipeE ρ (i :: is) = (wipeE ρ is).set i none := Eq.trans rfl rfl
def tI (xs : List Int) : D := .tup (xs.map .int)
def tN (xs : List Nat) : D := .tup (xs.map fun c : Nat => D.int (c : Int))
@[simp] theorem isT_tI (xs : List Int) : isT .tuple (tI xs) = some true := Eq.trans rfl rfl
@[simp] theorem isT_tN (xs : List Nat) : isT .tuple (tN xs) = some true := Eq.trans rfl rfl
@[simp] theorem len_tI (xs : List Int) : prD .len [tI xs] = some (.d (.int xs.length)) := by show some _ = _; simp
@[simp] theorem len_tN (xs : List Nat) : prD .len [tN xs] = some (.d (.int xs.length)) := by show some _ = _; simp
theorem ixAt_nat {n i : Nat} (h : i < n) : ixAt n (i : Int) = some i := by
  unfold ixAt
  rw [if_pos (by omega), if_pos (by omega)]
  simp
theorem ix_tI {xs : List Int} {i : Nat} {x : Int} (h : xs[i]? = some x) : ixD (tI xs) (.int (i : Int)) = some (.int x) := by
  show (ixAt _ _).bind _ = _
  rw [List.length_map, ixAt_nat (List.getElem?_eq_some_iff.mp h).1]
  simp [h]
theorem ix_tN {xs : List Nat} {i : Nat} {x : Nat} (h : xs[i]? = some x) : ixD (tN xs) (.int (i : Int)) = some (.int (x : Int)) := by
  show (ixAt _ _).bind _ = _
  rw [List.length_map, ixAt_nat (List.getElem?_eq_some_iff.mp h).1]
  simp [h]
@[simp] theorem seq_tI (xs : List Int) : turns .seq [tI xs] = some (xs.map .int) := Eq.trans rfl rfl
@[simp] theorem seq_tN (xs : List Nat) : turns .seq [tN xs] = some (xs.map fun c : Nat => D.int (c : Int)) := Eq.trans rfl rfl
namespace K1
theorem run {n f : Nat} {vs : List Val} {M : Mem} (F : Fd) (h : tabFn f = some F) (hl : vs.length = F.np) : callF tab (n + 1) f vs M = (execs tab (callF tab n) F.body (vs.map some ++ List.replicate (F.nn - vs.length) none) M).res := by
  rw [callF, show tab.fn f = some F from h]
  dsimp only
  rw [if_pos hl]
variable {n : Nat} {M : Mem}
theorem is_integer_ok (i : Int) : callF tab (n + 1) f_is_integer [.d (.int i)] M = .ok (.d (.bl true)) M := rfl
theorem is_within_ok (i a b : Int) : callF tab (n + 2) f_is_within [.d (.int i), .d (.int a), .d (.int b)] M = .ok (.d (.bl (decide (a ≤ i) && decide (i ≤ b)))) M := by
  rw [run d_is_within rfl rfl]
  simp [d_is_within, is_integer_ok]
  cases h : decide (a ≤ i) <;> simp at h <;> simp [h]
  all_goals first | (intro; omega) | skip
/-- columns, ascending -/
def Pat (k : Nat) (p : List Nat) : Prop := p.Pairwise (· < ·) ∧ ∀ c ∈ p, c < k
theorem asc_len : ∀ (p : List Nat) (lo k : Nat), p.Pairwise (· < ·) → (∀ c ∈ p, lo ≤ c ∧ c < k) → p.length ≤ k - lo
  | [], _, _, _, _ => Nat.zero_le _
  | c :: p, lo, k, h, b => by
    rw [List.pairwise_cons] at h
    have h1 := b c List.mem_cons_self
    have h2 := asc_len p (c + 1) k h.2 fun d hd => ⟨h.1 d hd, (b d (List.mem_cons_of_mem _ hd)).2⟩
    rw [List.length_cons]
    omega
theorem Pat.len {k : Nat} {p : List Nat} (h : Pat k p) : p.length ≤ k := by
  have := asc_len p 0 k h.1 fun c hc => ⟨Nat.zero_le _, h.2 c hc⟩
  simpa using this
theorem range2_of (b : Nat) (h : b ≤ 4096) : turns .range2 [.int 1, .int (b : Int)] = some ((List.range (b - 1)).map fun k : Nat => D.int (1 + (k : Int))) := by
  unfold turns turnsR2
  have e : ((b : Int) - 1).toNat = b - 1 := by omega
  have h1 : (b : Int) < 4611686018427387904 := by omega
  simp [e, h1]
theorem asc_ok (p : List Nat) (h : p.Pairwise (· < ·)) (hl : p.length ≤ 100) : callF tab (n + 1) f_are_ascending [.d (tN p)] M = .ok (.d (.bl true)) M := by
  rw [run d_are_ascending rfl rfl]
  simp only [d_are_ascending, List.map, List.length_cons, List.length_nil, xs_cons, x_ret, ev_pr, ps_cons, ps_nil, ev_lc, ev_c, ev_var, rd_d, Res.bind_ok, Res.of_some, peek_d, len_tN, List.replicate, List.cons_append, List.nil_append, List.getElem?_cons_zero]
  rw [range2_of _ (by omega), Res.of_some, Res.bind_ok]
  rw [lcGo_map (M := M) (fun k : Nat => D.int (1 + (k : Int))) (fun k => D.bl (decide (p.getD k 0 < p.getD (k + 1) 0)))]
  · simp only [Res.bind_ok, peek_o, Res.of_some, List.nil_append]
    rw [all_map]
    have : ((List.range (p.length - 1)).all fun k => decide (p.getD k 0 < p.getD (k + 1) 0)) = true := by
      rw [List.all_eq_true]
      intro k hk
      rw [List.mem_range] at hk
      rw [decide_eq_true_eq]
      have h1 : k + 1 < p.length := by omega
      simp only [List.getD_eq_getElem?_getD, List.getElem?_eq_getElem h1, List.getElem?_eq_getElem (show k < p.length by omega), Option.getD_some]
      exact List.pairwise_iff_getElem.mp h k (k + 1) (by omega) h1 (by omega)
    rw [this]
    rfl
  · intro k hk
    rw [List.mem_range] at hk
    have h1 : k + 1 < p.length := by omega
    have e1 : p[k]? = some (p.getD k 0) := by rw [List.getD_eq_getElem?_getD, List.getElem?_eq_getElem (by omega)]; rfl
    have e2 : p[k + 1]? = some (p.getD (k + 1) 0) := by rw [List.getD_eq_getElem?_getD, List.getElem?_eq_getElem (by omega)]; rfl
    refine ⟨_, rfl, by simp, ?_⟩
    have i1 : (1 + (k : Int)) - 1 = (k : Int) := by omega
    have i2 := ix_tN e2
    have i3 : ((k + 1 : Nat) : Int) = 1 + (k : Int) := by omega
    rw [i3] at i2
    simp [i1, ix_tN e1, i2]
  · simp
    omega
theorem is_pattern_ok (k : Nat) (p : List Nat) (h : Pat k p) (hk : k ≤ 5) : callF tab (n + 3) f_is_pattern [.d (.int k), .d (tN p)] M = .ok (.d (.bl true)) M := by
  have hl := h.len
  rw [run d_is_pattern rfl rfl]
  simp [d_is_pattern]
  rw [lcGo_map (M := M) (fun c : Nat => D.int (c : Int)) (fun c => D.bl (decide ((0 : Int) ≤ c) && decide ((c : Int) ≤ (k : Int) - 1)))]
  · simp only [Res.bind_ok, peek_o, Res.of_some, List.nil_append, all_map]
    have : (p.all fun c : Nat => decide ((0 : Int) ≤ c) && decide ((c : Int) ≤ (k : Int) - 1)) = true := by
      rw [List.all_eq_true]
      intro c hc
      have := h.2 c hc
      rw [Bool.and_eq_true, decide_eq_true_eq, decide_eq_true_eq]
      omega
    rw [this]
    simp [asc_ok p h.1 (by omega)]
  · intro c hc
    refine ⟨_, rfl, by simp, ?_⟩
    simp [is_within_ok]
  · simp
    omega
theorem check_pattern_ok (k : Nat) (p : List Nat) (h : Pat k p) (hk : k ≤ 5) : callF tab (n + 4) f_check_pattern [.d (.int k), .d (tN p)] M = .ok (.d .non) M := by
  rw [run d_check_pattern rfl rfl]
  simp [d_check_pattern, is_pattern_ok k p h hk]
end K1
end Fm
end

/-! ## part KR -/
section
set_option maxHeartbeats 2000000
namespace Fm
open PySem
/-! ### tuples of whole numbers: ==, plainness -/
def nD (c : Nat) : D := .int (c : Int)
theorem tN_eq (a : List Nat) : tN a = .tup (a.map nD) := rfl
theorem eqv_nD (a b : Nat) : D.eqv (nD a) (nD b) = decide (a = b) := by
  show ((a : Int) == (b : Int)) = _
  by_cases h : a = b
  · subst h; simp
  · have : ¬ (a : Int) = (b : Int) := by omega
    simp [h, this]
theorem eqvs_nD : ∀ a b : List Nat, D.eqvs (a.map nD) (b.map nD) = decide (a = b)
  | [], [] => rfl
  | [], _ :: _ => by simp [D.eqvs]
  | _ :: _, [] => by simp [D.eqvs]
  | x :: xs, y :: ys => by
    rw [List.map_cons, List.map_cons, D.eqvs, eqvs_nD xs ys, eqv_nD]
    by_cases h : x = y <;> by_cases h2 : xs = ys <;> simp [h, h2]
theorem eqv_tN (a b : List Nat) : D.eqv (tN a) (tN b) = decide (a = b) := by
  rw [tN_eq, tN_eq, D.eqv, eqvs_nD]
theorem plains_nD : ∀ a : List Nat, D.plains (a.map nD) = true
  | [] => rfl
  | x :: xs => by rw [List.map_cons, D.plains, plains_nD xs]; rfl
theorem depths_nD : ∀ a : List Nat, D.depths (a.map nD) = 0
  | [] => rfl
  | x :: xs => by rw [List.map_cons, D.depths, depths_nD xs]; rfl
theorem plain_tN (a : List Nat) : (tN a).plain = true := by rw [tN_eq, D.plain]; exact plains_nD a
theorem depth_tN (a : List Nat) : (tN a).depth = 1 := by rw [tN_eq, D.depth, depths_nD]
theorem eqvs_tN : ∀ a b : List (List Nat), D.eqvs (a.map tN) (b.map tN) = decide (a = b)
  | [], [] => rfl
  | [], _ :: _ => by simp [D.eqvs]
  | _ :: _, [] => by simp [D.eqvs]
  | x :: xs, y :: ys => by
    rw [List.map_cons, List.map_cons, D.eqvs, eqvs_tN xs ys, eqv_tN]
    by_cases h : x = y <;> by_cases h2 : xs = ys <;> simp [h, h2]
theorem plains_tN : ∀ a : List (List Nat), D.plains (a.map tN) = true
  | [] => rfl
  | x :: xs => by rw [List.map_cons, D.plains, plains_tN xs, plain_tN]; rfl
theorem depths_tN : ∀ a : List (List Nat), D.depths (a.map tN) ≤ 1
  | [] => Nat.zero_le _
  | x :: xs => by
    have := depths_tN xs
    rw [List.map_cons, D.depths, depth_tN]
    omega
/-- a list of such tuples -/
def lN (a : List (List Nat)) : D := .lst (a.map tN)
theorem eqOk_lN (a : List (List Nat)) : (lN a).eqOk = true := by
  unfold D.eqOk lN
  rw [D.plain, D.depth, plains_tN]
  have := depths_tN a
  simp
  omega
theorem cmp_lN (a b : List (List Nat)) : cmpEq (lN a) (lN b) = some (decide (a = b)) := by
  unfold cmpEq
  rw [eqOk_lN, eqOk_lN]
  simp only [lN, D.eqv, eqvs_tN, Bool.and_self, if_true]
/-- a box -/
def bx (p ws : List Nat) : D := .tup [tN p, tN ws]
theorem bx_eq (p ws : List Nat) : bx p ws = .tup ([p, ws].map tN) := rfl
theorem eqOk_bx (p ws : List Nat) : (bx p ws).eqOk = true := by
  unfold D.eqOk
  rw [bx_eq, D.plain, D.depth, plains_tN]
  have := depths_tN [p, ws]
  simp
  simp at this
  omega
theorem cmp_bx (p ws q vs : List Nat) : cmpEq (bx p ws) (bx q vs) = some (decide (p = q ∧ ws = vs)) := by
  unfold cmpEq
  rw [eqOk_bx, eqOk_bx]
  rw [bx_eq, bx_eq, D.eqv, eqvs_tN]
  simp
/-- None or a box -/
def ob : Option (List Nat × List Nat) → D
  | none => .non
  | some (p, ws) => bx p ws
theorem eqOk_ob (o : Option (List Nat × List Nat)) : (ob o).eqOk = true := by
  cases o with
  | none => rfl
  | some q => exact eqOk_bx _ _
theorem cmp_ob (o o' : Option (List Nat × List Nat)) : cmpEq (ob o) (ob o') = some (decide (o = o')) := by
  unfold cmpEq
  rw [eqOk_ob, eqOk_ob]
  cases o with
  | none =>
    cases o' with
    | none => rfl
    | some q => simp [ob, bx, D.eqv]
  | some q =>
    cases o' with
    | none => simp [ob, bx, D.eqv]
    | some r =>
      obtain ⟨p, ws⟩ := q
      obtain ⟨p', ws'⟩ := r
      simp only [ob, bx_eq, D.eqv, eqvs_tN, Bool.and_self, if_true]
      simp
theorem ob_bx (p ws : List Nat) : bx p ws = ob (some (p, ws)) := rfl
theorem is_non_ob (o : Option (List Nat × List Nat)) : cmpIs (ob o) .non = some (decide (o = none)) := by
  cases o with
  | none => rfl
  | some q => simp [ob, bx, cmpIs]

namespace K1
/-! ### contents -/
def allC (szs : List Nat) : List (List Nat) := szs.foldl (fun found s => found.flatMap fun c => (List.range s).map fun w => c ++ [w]) [[]]
/-- a content of these sizes -/
def InC (szs x : List Nat) : Prop := x.length = szs.length ∧ ∀ i v s : Nat, x[i]? = some v → szs[i]? = some s → v < s
theorem allC_from : ∀ (szs : List Nat) (acc : List (List Nat)) (y : List Nat), y ∈ szs.foldl (fun found s => found.flatMap fun c => (List.range s).map fun w => c ++ [w]) acc ↔ ∃ a ∈ acc, ∃ t, y = a ++ t ∧ InC szs t
  | [], acc, y => by
    simp only [List.foldl_nil]
    constructor
    · intro h
      exact ⟨y, h, [], by simp, rfl, fun i v s e => by simp at e⟩
    · rintro ⟨a, ha, t, rfl, hl, _⟩
      have : t = [] := List.length_eq_zero_iff.mp hl
      subst this
      simpa using ha
  | s :: szs, acc, y => by
    rw [List.foldl_cons, allC_from szs]
    constructor
    · rintro ⟨a, ha, t, rfl, hl, ht⟩
      rw [List.mem_flatMap] at ha
      obtain ⟨c, hc, hm⟩ := ha
      rw [List.mem_map] at hm
      obtain ⟨w, hw, rfl⟩ := hm
      rw [List.mem_range] at hw
      refine ⟨c, hc, w :: t, by simp, by simp [hl], fun i v s' e1 e2 => ?_⟩
      cases i with
      | zero => simp at e1 e2; omega
      | succ i => exact ht i v s' (by simpa using e1) (by simpa using e2)
    · rintro ⟨a, ha, t, rfl, hl, ht⟩
      cases t with
      | nil => simp at hl
      | cons w t =>
        refine ⟨a ++ [w], ?_, t, by simp, by simpa using hl, fun i v s' e1 e2 => ht (i + 1) v s' (by simpa using e1) (by simpa using e2)⟩
        rw [List.mem_flatMap]
        refine ⟨a, ha, ?_⟩
        rw [List.mem_map]
        exact ⟨w, List.mem_range.mpr (ht 0 w s rfl rfl), rfl⟩
theorem mem_allC {szs y : List Nat} : y ∈ allC szs ↔ InC szs y := by
  unfold allC
  rw [allC_from]
  constructor
  · rintro ⟨a, ha, t, rfl, h⟩
    simp at ha
    subst ha
    simpa using h
  · intro h
    exact ⟨[], by simp, y, by simp, h⟩
def SZ : List (List Nat) := [[2, 2, 2, 2, 2], [4, 4], [3, 3, 2], [2, 4, 2, 2], [4, 4, 4], [2, 2, 2], [2, 3, 2], [3, 2, 2], [2, 2], [3, 2], [2, 2, 3], [4], [2, 2, 2, 2], [2]]
variable {n : Nat} {M : Mem}
theorem check_sizes_ok : ∀ szs ∈ SZ, callF tab (n + 5) f_check_sizes [.d (tN szs)] M = .ok (.d .non) M := by
  intro szs h
  simp only [SZ, List.mem_cons, List.not_mem_nil, or_false] at h
  rcases h with rfl | rfl | rfl | rfl | rfl | rfl | rfl | rfl | rfl | rfl | rfl | rfl | rfl | rfl <;> kernel_rfl
theorem raw_contents_ok : ∀ szs ∈ SZ, callF tab (n + 1) f_raw_contents [.d (tN szs)] M = .ok (.o (lN (allC szs))) M := by
  intro szs h
  simp only [SZ, List.mem_cons, List.not_mem_nil, or_false] at h
  rcases h with rfl | rfl | rfl | rfl | rfl | rfl | rfl | rfl | rfl | rfl | rfl | rfl | rfl | rfl <;> kernel_rfl
theorem law_contents_ok : ∀ szs ∈ SZ, callF tab (n + 1) f__law_contents [.d (tN szs)] M = .ok (.d (lN (allC szs))) M := by
  intro szs h
  simp only [SZ, List.mem_cons, List.not_mem_nil, or_false] at h
  rcases h with rfl | rfl | rfl | rfl | rfl | rfl | rfl | rfl | rfl | rfl | rfl | rfl | rfl | rfl <;> kernel_rfl
theorem sz_len : ∀ szs ∈ SZ, szs.length ≤ 5 ∧ (allC szs).length ≤ 64 ∧ 0 < (allC szs).length := by decide +kernel
theorem sz_pos : ∀ szs ∈ SZ, ∀ s ∈ szs, 0 < s ∧ s ≤ 4 := by decide +kernel
end K1
end Fm
end

/-! ## part KS -/
section
set_option maxHeartbeats 2000000
namespace Fm
open PySem
@[simp] theorem setAll_nil (ρ : Env) : setAll [] [] ρ = some ρ := Eq.trans rfl rfl
@[simp] theorem setAll_cons (i : Nat) (is : List Nat) (x : D) (xs : List D) (ρ : Env) : setAll (i :: is) (x :: xs) ρ = setAll is xs (ρ.set i (some (.d x))) := Eq.trans rfl rfl
@[simp] theorem bind_t (is : List Nat) (xs : List D) (ρ : Env) : (Tg.t is).bind (.tup xs) ρ = setAll is xs ρ := Eq.trans rfl rfl
@[simp] theorem fits_2 : fits 2 = true := fits_of (by decide)
theorem zip_tN (xs ys : List Nat) : turns .zip [tN xs, tN ys] = some ((xs.zip ys).map fun p => .tup [.int (p.1 : Int), .int (p.2 : Int)]) := by
  show some (List.zipWith _ _ _) = _
  rw [List.zipWith_map, List.zip, List.map_zipWith]
theorem enum_tN (xs : List Nat) : turns .enum [tN xs] = some ((List.range xs.length).map fun i => .tup [.int (i : Int), .int ((xs[i]?.getD 0 : Nat) : Int)]) := by
  show some (List.mapIdx _ _) = _
  congr 1
  apply List.ext_getElem?
  intro i
  rw [List.getElem?_mapIdx, List.getElem?_map, List.getElem?_map]
  by_cases h : i < xs.length
  · rw [List.getElem?_range h]
    simp [List.getElem?_eq_getElem h]
  · rw [List.getElem?_eq_none (by omega), List.getElem?_eq_none (by simp; omega)]
    rfl
@[simp] theorem ix_bx0 (p ws : List Nat) : ixD (bx p ws) (.int 0) = some (tN p) := Eq.trans rfl rfl
@[simp] theorem ix_bx1 (p ws : List Nat) : ixD (bx p ws) (.int 1) = some (tN ws) := Eq.trans rfl rfl
@[simp] theorem isT_bx (p ws : List Nat) : isT .tuple (bx p ws) = some true := Eq.trans rfl rfl
@[simp] theorem len_bx (p ws : List Nat) : prD .len [bx p ws] = some (.d (.int 2)) := Eq.trans rfl rfl
@[simp] theorem cmp_eq_bx (p ws q vs : List Nat) : cmpD .eq (bx p ws) (bx q vs) = some (decide (p = q ∧ ws = vs)) := cmp_bx p ws q vs
theorem getD_at {x : List Nat} {c : Nat} (h : c < x.length) : x[c]? = some (x[c]?.getD 0) := by
  rw [List.getElem?_eq_getElem h]; rfl
/-- a content's worths in some columns -/
def at_ (x p : List Nat) : List Nat := p.map fun c => x[c]?.getD 0
namespace K1
variable {n : Nat} {M : Mem}
theorem raw_box_ok (p x : List Nat) (hp : ∀ c ∈ p, c < x.length) (hl : p.length ≤ 100) : callF tab (n + 1) f_raw_box [.d (tN p), .d (tN x)] M = .ok (.d (bx p (at_ x p))) M := by
  rw [run d_raw_box rfl rfl]
  simp [d_raw_box]
  rw [lcGo_map (M := M) (fun c : Nat => D.int (c : Int)) (fun c => D.int ((x[c]?.getD 0 : Nat) : Int))]
  · simp [bx, at_, tN, List.map_map, Function.comp_def]
  · intro c hc
    refine ⟨_, rfl, by simp, ?_⟩
    have := ix_tN (getD_at (hp c hc))
    simp [this]
  · simp
    omega
theorem law_box_ok (p x : List Nat) (hp : ∀ c ∈ p, c < x.length) (hl : p.length ≤ 100) : callF tab (n + 1) f__law_box [.d (tN p), .d (tN x)] M = .ok (.d (bx p (at_ x p))) M := by
  rw [run d__law_box rfl rfl]
  simp [d__law_box]
  rw [lcGo_map (M := M) (fun c : Nat => D.int (c : Int)) (fun c => D.int ((x[c]?.getD 0 : Nat) : Int))]
  · simp [bx, at_, tN, List.map_map, Function.comp_def]
  · intro c hc
    refine ⟨_, rfl, by simp, ?_⟩
    have := ix_tN (getD_at (hp c hc))
    simp [this]
  · simp
    omega
theorem is_in_ok (p ws x : List Nat) (hp : ∀ c ∈ p, c < x.length) (hl : p.length ≤ 100) : callF tab (n + 2) f_is_in [.d (bx p ws), .d (tN x)] M = .ok (.d (.bl (decide (at_ x p = ws)))) M := by
  rw [run d_is_in rfl rfl]
  simp [d_is_in, raw_box_ok p x hp hl, cmp_bx]
theorem law_is_in_ok (p ws x : List Nat) (hp : ∀ c ∈ p, c < x.length) (hl : p.length ≤ 100) : callF tab (n + 2) f__law_is_in [.d (bx p ws), .d (tN x)] M = .ok (.d (.bl (decide (at_ x p = ws)))) M := by
  rw [run d__law_is_in rfl rfl]
  simp [d__law_is_in, law_box_ok p x hp hl, cmp_bx]
theorem is_content_ok (szs x : List Nat) (h : InC szs x) (hl : szs.length ≤ 5) : callF tab (n + 3) f_is_content [.d (tN szs), .d (tN x)] M = .ok (.d (.bl true)) M := by
  rw [run d_is_content rfl rfl]
  simp [d_is_content, h.1, zip_tN]
  rw [lcGo_map (M := M) (fun p : Nat × Nat => D.tup [.int (p.1 : Int), .int (p.2 : Int)]) (fun p => D.bl (decide ((0 : Int) ≤ p.1) && decide ((p.1 : Int) ≤ (p.2 : Int) - 1)))]
  · simp only [Res.bind_ok, peek_o, Res.of_some, List.nil_append, all_map]
    have : ((x.zip szs).all fun p : Nat × Nat => decide ((0 : Int) ≤ p.1) && decide ((p.1 : Int) ≤ (p.2 : Int) - 1)) = true := by
      rw [List.all_eq_true]
      intro q hq
      obtain ⟨i, hi, e⟩ := List.mem_iff_getElem.mp hq
      have hx : i < x.length := by simp at hi; omega
      have hs : i < szs.length := by simp at hi; omega
      have e2 : q = (x[i], szs[i]) := by rw [← e, List.getElem_zip]
      have := h.2 i x[i] szs[i] (List.getElem?_eq_getElem hx) (List.getElem?_eq_getElem hs)
      rw [e2, Bool.and_eq_true, decide_eq_true_eq, decide_eq_true_eq]
      dsimp only
      omega
    rw [this]
    simp
  · intro q hq
    refine ⟨_, rfl, by simp, ?_⟩
    simp [is_within_ok]
  · simp
    omega
theorem check_content_ok (szs x : List Nat) (h : InC szs x) (hl : szs.length ≤ 5) : callF tab (n + 4) f_check_content [.d (tN szs), .d (tN x)] M = .ok (.d .non) M := by
  rw [run d_check_content rfl rfl]
  simp [d_check_content, is_content_ok szs x h hl]
theorem is_pair_ok (p ws : List Nat) : callF tab (n + 1) f_is_pair [.d (bx p ws)] M = .ok (.d (.bl true)) M := by
  rw [run d_is_pair rfl rfl]
  simp [d_is_pair]
/-- worths that some content has -/
def Wth (szs p ws : List Nat) : Prop := ∃ x, InC szs x ∧ ws = at_ x p
theorem is_raw_box_ok (szs p x : List Nat) (h : InC szs x) (hp : Pat szs.length p) (hl : szs.length ≤ 5) : callF tab (n + 4) f_is_raw_box [.d (tN szs), .d (bx p (at_ x p))] M = .ok (.d (.bl true)) M := by
  have hlp := hp.len
  rw [run d_is_raw_box rfl rfl]
  simp [d_is_raw_box, is_pair_ok, is_pattern_ok szs.length p hp hl]
  rw [show bx p (at_ x p) = .tup [tN p, tN (at_ x p)] from rfl]
  simp [enum_tN, at_]
  rw [lcGo_map (M := M) (fun i : Nat => D.tup [.int (i : Int), .int ((p[i]?.getD 0 : Nat) : Int)]) (fun i => D.bl (decide ((0 : Int) ≤ (x[p[i]?.getD 0]?.getD 0 : Nat)) && decide (((x[p[i]?.getD 0]?.getD 0 : Nat) : Int) ≤ ((szs[p[i]?.getD 0]?.getD 0 : Nat) : Int) - 1)))]
  · simp only [Res.bind_ok, peek_o, Res.of_some, List.nil_append, all_map]
    have : ((List.range p.length).all fun i => decide ((0 : Int) ≤ (x[p[i]?.getD 0]?.getD 0 : Nat)) && decide (((x[p[i]?.getD 0]?.getD 0 : Nat) : Int) ≤ ((szs[p[i]?.getD 0]?.getD 0 : Nat) : Int) - 1)) = true := by
      rw [List.all_eq_true]
      intro i hi
      rw [List.mem_range] at hi
      have hc : p[i]?.getD 0 < szs.length := hp.2 _ (List.mem_of_getElem? (getD_at hi))
      have := h.2 _ _ _ (getD_at (show p[i]?.getD 0 < x.length by rw [h.1]; exact hc)) (getD_at hc)
      rw [Bool.and_eq_true, decide_eq_true_eq, decide_eq_true_eq]
      omega
    rw [this]
    simp
  · intro i hi
    rw [List.mem_range] at hi
    refine ⟨_, rfl, by simp, ?_⟩
    have hc : p[i]?.getD 0 < szs.length := hp.2 _ (List.mem_of_getElem? (getD_at hi))
    have e1 := ix_tN (getD_at hc)
    have e2 : ixD (tN (p.map fun c => x[c]?.getD 0)) (.int (i : Int)) = some (.int ((x[p[i]?.getD 0]?.getD 0 : Nat) : Int)) := ix_tN (by rw [List.getElem?_map, getD_at hi]; rfl)
    simp [e1, e2, is_within_ok]
  · simp
    omega
theorem check_box_ok (szs p x : List Nat) (h : InC szs x) (hp : Pat szs.length p) (hl : szs.length ≤ 5) : callF tab (n + 5) f_check_box [.d (tN szs), .d (bx p (at_ x p))] M = .ok (.d .non) M := by
  rw [run d_check_box rfl rfl]
  simp [d_check_box, is_raw_box_ok szs p x h hp hl]
theorem is_box_ok (szs p x : List Nat) (hs : szs ∈ SZ) (h : InC szs x) (hp : Pat szs.length p) : callF tab (n + 6) f_is_box [.d (tN szs), .d (bx p (at_ x p))] M = .ok (.d (.bl true)) M := by
  rw [run d_is_box rfl rfl]
  simp [d_is_box, is_raw_box_ok szs p x h hp (sz_len szs hs).1, check_sizes_ok szs hs]
theorem box_at_ok (szs p x : List Nat) (hs : szs ∈ SZ) (h : InC szs x) (hp : Pat szs.length p) : callF tab (n + 6) f_box_at [.d (tN szs), .d (tN p), .d (tN x)] M = .ok (.d (bx p (at_ x p))) M := by
  have hl := (sz_len szs hs).1
  have hlp := hp.len
  rw [run d_box_at rfl rfl]
  simp [d_box_at, check_sizes_ok szs hs, check_pattern_ok szs.length p hp hl, check_content_ok szs x h hl, raw_box_ok p x (fun c hc => by rw [h.1]; exact hp.2 c hc) (by omega)]
theorem contents_ok (szs : List Nat) (hs : szs ∈ SZ) : callF tab (n + 6) f_contents [.d (tN szs)] M = .ok (.o (lN (allC szs))) M := by
  rw [run d_contents rfl rfl]
  simp [d_contents, check_sizes_ok szs hs, raw_contents_ok szs hs]
/-- the contents in a box -/
def inB (szs p ws : List Nat) : List (List Nat) := (allC szs).filter fun x => decide (at_ x p = ws)
theorem in_box_ok (szs p x : List Nat) (hs : szs ∈ SZ) (h : InC szs x) (hp : Pat szs.length p) : callF tab (n + 6) f_in_box [.d (tN szs), .d (bx p (at_ x p))] M = .ok (.o (lN (inB szs p (at_ x p)))) M := by
  have hl := (sz_len szs hs).1
  have hlp := hp.len
  rw [run d_in_box rfl rfl]
  simp [d_in_box, check_sizes_ok szs hs, check_box_ok szs p x h hp hl]
  rw [run d_raw_in_box rfl rfl]
  simp [d_raw_in_box, raw_contents_ok szs hs]
  rw [show turns .seq [lN (allC szs)] = some ((allC szs).map tN) from rfl, Res.of_some, Res.bind_ok]
  rw [lcGo_pure (M := M) tN (fun y => decide (at_ y p = at_ x p)) tN]
  · simp [lN, inB]
  · intro y hy
    have hy' := mem_allC.mp hy
    refine ⟨_, rfl, ?_, fun _ => by simp⟩
    simp [is_in_ok p (at_ x p) y (fun c hc => by rw [hy'.1]; exact hp.2 c hc) (by omega)]
    by_cases hh : at_ y p = at_ x p <;> simp [hh]
  · have := (sz_len szs hs).2.1
    simp
    omega
end K1
end Fm
end

/-! ## part KU -/
section
set_option maxHeartbeats 2000000
namespace Fm
open PySem
/-! ### small dicts, as lists of pairs -/
def kvN (l : List (Nat × Nat)) : List (D × D) := l.map fun e => (nD e.1, nD e.2)
def getN (l : List (Nat × Nat)) (c : Nat) : Option Nat := (l.find? fun e => decide (e.1 = c)).map (·.2)
def putN (l : List (Nat × Nat)) (c w : Nat) : List (Nat × Nat) := if (l.any fun e => decide (e.1 = c)) = true then l.map (fun e => if e.1 = c then (e.1, w) else e) else l ++ [(c, w)]
def keysN (l : List (Nat × Nat)) : List Nat := l.map (·.1)
theorem nD_inj {a b : Nat} (h : nD a = nD b) : a = b := by
  have : (a : Int) = (b : Int) := by injection h
  omega
theorem nD_iff {a b : Nat} : nD a = nD b ↔ a = b := ⟨nD_inj, fun h => by rw [h]⟩
@[simp] theorem keyOk_nD (a : Nat) : keyOk (nD a) = true := Eq.trans rfl rfl
theorem dget_kv (l : List (Nat × Nat)) (c : Nat) : dgetD (kvN l) (nD c) = (getN l c).map nD := by
  unfold dgetD kvN getN
  rw [List.find?_map]
  simp only [Function.comp_def, nD_iff, Option.map_map]
theorem dput_kv (l : List (Nat × Nat)) (c w : Nat) : dputD (kvN l) (nD c) (nD w) = kvN (putN l c w) := by
  unfold dputD putN
  have e : ((kvN l).any fun p => decide (p.1 = nD c)) = l.any fun e => decide (e.1 = c) := by
    unfold kvN
    rw [List.any_map]
    simp only [Function.comp_def, nD_iff]
  rw [e]
  split
  · unfold kvN
    rw [List.map_map, List.map_map]
    apply List.map_congr_left
    intro a _
    simp only [Function.comp_def, nD_iff]
    split <;> rfl
  · unfold kvN
    rw [List.map_append]
    rfl
theorem getN_none {l : List (Nat × Nat)} {c : Nat} : getN l c = none ↔ c ∉ keysN l := by
  unfold getN keysN
  simp
  constructor
  · intro h x hx
    exact h c x hx rfl
  · intro h a b hab e
    subst e
    exact h b hab
theorem getN_any {l : List (Nat × Nat)} {c : Nat} : (l.any fun e => decide (e.1 = c)) = (getN l c).isSome := by
  unfold getN
  induction l with
  | nil => rfl
  | cons e l ih =>
    by_cases h : e.1 = c
    · simp [h]
    · rw [List.any_cons, List.find?_cons_of_neg (by simpa using h), ih, decide_eq_false h, Bool.false_or]
theorem getN_cons {e : Nat × Nat} {l : List (Nat × Nat)} {c : Nat} : getN (e :: l) c = if e.1 = c then some e.2 else getN l c := by
  unfold getN
  by_cases h : e.1 = c
  · rw [List.find?_cons_of_pos (by simpa using h), if_pos h]; rfl
  · rw [List.find?_cons_of_neg (by simpa using h), if_neg h]
theorem getN_app {l m : List (Nat × Nat)} {c : Nat} : getN (l ++ m) c = (getN l c).or (getN m c) := by
  induction l with
  | nil => simp [getN]
  | cons e l ih =>
    rw [List.cons_append, getN_cons, getN_cons, ih]
    split <;> simp
theorem getN_repl {l : List (Nat × Nat)} {c w d : Nat} : getN (l.map fun e => if e.1 = c then (e.1, w) else e) d = if d = c then (getN l d).map fun _ => w else getN l d := by
  induction l with
  | nil => simp [getN]
  | cons e l ih =>
    rw [List.map_cons, getN_cons, getN_cons, ih]
    by_cases h : e.1 = c
    · by_cases hd : d = c
      · subst hd; simp [h]
      · have : ¬ c = d := fun z => hd z.symm
        have h2 : ¬ e.1 = d := by rw [h]; exact this
        simp [h, hd, this]
    · by_cases hd : d = c
      · subst hd; simp [h]
      · simp [h, hd]
theorem getN_put {l : List (Nat × Nat)} {c w d : Nat} : getN (putN l c w) d = if d = c then some w else getN l d := by
  unfold putN
  rw [getN_any]
  split
  · rename_i h
    rw [getN_repl]
    by_cases hd : d = c
    · subst hd
      rw [if_pos rfl, if_pos rfl]
      obtain ⟨v, hv⟩ := Option.isSome_iff_exists.mp h
      rw [hv]; rfl
    · rw [if_neg hd, if_neg hd]
  · rename_i h
    rw [getN_app, getN_cons]
    by_cases hd : d = c
    · subst hd
      have : getN l d = none := by simpa using h
      simp [this]
    · have h2 : ¬ c = d := fun z => hd z.symm
      simp [hd, h2, getN]
theorem put_keys {l : List (Nat × Nat)} {c w : Nat} (h : (keysN l).Nodup) : (keysN (putN l c w)).Nodup ∧ (putN l c w).length ≤ l.length + 1 := by
  unfold putN
  rw [getN_any]
  split
  · have e : keysN (l.map fun e => if e.1 = c then (e.1, w) else e) = keysN l := by
      unfold keysN
      rw [List.map_map]
      apply List.map_congr_left
      intro a _
      simp only [Function.comp_def]
      split <;> rfl
    rw [e]
    exact ⟨h, by simp⟩
  · rename_i hn
    have hc : c ∉ keysN l := getN_none.mp (by simpa using hn)
    refine ⟨?_, by simp⟩
    unfold keysN at hc h ⊢
    rw [List.map_append, List.map_cons, List.map_nil, List.nodup_append]
    refine ⟨h, by simp, fun a ha b hb e => ?_⟩
    simp at hb
    subst hb
    subst e
    exact hc ha
def mergeN : List (Nat × Nat) → List (Nat × Nat) → Option (List (Nat × Nat))
  | l, [] => some l
  | l, e :: r => if (getN l e.1).getD e.2 = e.2 then mergeN (putN l e.1 e.2) r else none
theorem mergeN_none : ∀ {r l : List (Nat × Nat)}, (keysN r).Nodup → mergeN l r = none → ∃ e ∈ r, ∃ v, getN l e.1 = some v ∧ v ≠ e.2
  | [], l, _, h => by cases h
  | e :: r, l, nr, h => by
    unfold keysN at nr
    rw [List.map_cons, List.nodup_cons] at nr
    rw [mergeN] at h
    split at h
    · obtain ⟨f, hf, v, hv, hne⟩ := mergeN_none (r := r) nr.2 h
      rw [getN_put] at hv
      by_cases hc : f.1 = e.1
      · exact absurd (by rw [← hc]; exact List.mem_map_of_mem hf) nr.1
      · rw [if_neg hc] at hv
        exact ⟨f, List.mem_cons_of_mem _ hf, v, hv, hne⟩
    · rename_i hn
      cases hg : getN l e.1 with
      | none => rw [hg] at hn; exact absurd rfl hn
      | some v =>
        rw [hg] at hn
        exact ⟨e, List.mem_cons_self, v, hg, hn⟩
theorem mergeN_some : ∀ {r l l' : List (Nat × Nat)}, (keysN l).Nodup → (keysN r).Nodup → mergeN l r = some l' →
    (keysN l').Nodup ∧ l'.length ≤ l.length + r.length ∧ (∀ e ∈ r, ∀ v, getN l e.1 = some v → v = e.2) ∧ ∀ c, getN l' c = (getN l c).or (getN r c)
  | [], l, l', nl, _, h => by
    cases h
    exact ⟨nl, by simp, fun e he => (nomatch he), fun c => by simp [getN]⟩
  | e :: r, l, l', nl, nr, h => by
    unfold keysN at nr
    rw [List.map_cons, List.nodup_cons] at nr
    rw [mergeN] at h
    split at h
    · rename_i hg
      obtain ⟨p1, p2⟩ := put_keys (c := e.1) (w := e.2) nl
      obtain ⟨h1, h2, h3, h4⟩ := mergeN_some (r := r) p1 nr.2 h
      have hv : ∀ v, getN l e.1 = some v → v = e.2 := fun v hv => by rw [hv] at hg; exact hg
      refine ⟨h1, by simp; omega, fun f hf v hv' => ?_, fun c => ?_⟩
      · rcases List.mem_cons.mp hf with rfl | hf
        · exact hv v hv'
        · refine h3 f hf v ?_
          rw [getN_put, if_neg fun hc => nr.1 (by rw [← hc]; exact List.mem_map_of_mem hf)]
          exact hv'
      · rw [h4, getN_put, getN_cons]
        by_cases hc : c = e.1
        · subst hc
          rw [if_pos rfl, if_pos rfl]
          cases hl : getN l e.1 with
          | none => rfl
          | some v => rw [hv v hl]; rfl
        · rw [if_neg hc, if_neg fun z => hc z.symm]
    · cases h
theorem dmerge_kv : ∀ (r l : List (Nat × Nat)), (keysN (l ++ r)).Nodup → dmergeD (kvN l) (kvN r) = kvN (l ++ r)
  | [], l, _ => by simp [kvN, dmergeD]
  | e :: r, l, h => by
    have hc : e.1 ∉ keysN l := fun hm => by
      unfold keysN at h hm
      rw [List.map_append, List.nodup_append] at h
      exact h.2.2 _ hm _ (by simp) rfl
    show dmergeD (dputD (kvN l) (nD e.1) (nD e.2)) (kvN r) = _
    have hp : putN l e.1 e.2 = l ++ [e] := by
      unfold putN
      rw [getN_any, getN_none.mpr hc]
      rfl
    rw [dput_kv, hp, dmerge_kv r (l ++ [e]) (by simpa using h)]
    simp
/-- a box as such a list -/
def l0 (p x : List Nat) : List (Nat × Nat) := p.map fun c => (c, x[c]?.getD 0)
theorem keys_l0 (p x : List Nat) : keysN (l0 p x) = p := by
  unfold keysN l0
  rw [List.map_map]
  simp [Function.comp_def]
theorem get_l0 (p x : List Nat) (c : Nat) : getN (l0 p x) c = if c ∈ p then some (x[c]?.getD 0) else none := by
  induction p with
  | nil => rfl
  | cons d p ih =>
    show getN ((d, _) :: l0 p x) c = _
    rw [getN_cons, ih]
    by_cases h : d = c
    · subst h; simp
    · have : ¬ c = d := fun z => h z.symm
      simp [h, this]
theorem asc_ext : ∀ {a b : List Nat}, a.Pairwise (· < ·) → b.Pairwise (· < ·) → (∀ c, c ∈ a ↔ c ∈ b) → a = b
  | [], [], _, _, _ => rfl
  | [], y :: ys, _, _, h => by have := (h y).mpr List.mem_cons_self; simp at this
  | x :: xs, [], _, _, h => by have := (h x).mp List.mem_cons_self; simp at this
  | x :: xs, y :: ys, ha, hb, h => by
    rw [List.pairwise_cons] at ha hb
    have e : x = y := by
      have h1 := (h x).mp List.mem_cons_self
      have h2 := (h y).mpr List.mem_cons_self
      rcases List.mem_cons.mp h1 with e | m1
      · exact e
      · rcases List.mem_cons.mp h2 with e | m2
        · exact e.symm
        · have := hb.1 x m1; have := ha.1 y m2; omega
    subst e
    congr 1
    refine asc_ext ha.2 hb.2 fun c => ?_
    have hc := h c
    rw [List.mem_cons, List.mem_cons] at hc
    constructor
    · intro hm
      rcases hc.mp (.inr hm) with e | m
      · have := ha.1 c hm; omega
      · exact m
    · intro hm
      rcases hc.mpr (.inr hm) with e | m
      · have := hb.1 c hm; omega
      · exact m
def sortN (ks : List Nat) : List Nat := ks.mergeSort fun a b => decide (a ≤ b)
theorem sortN_perm (ks : List Nat) : (sortN ks).Perm ks := List.mergeSort_perm ks _
theorem sortN_le (ks : List Nat) : (sortN ks).Pairwise (· ≤ ·) := by
  have h := List.pairwise_mergeSort (le := fun a b : Nat => decide (a ≤ b)) (fun a b c h1 h2 => by simp at *; omega) (fun a b => by simp; omega) ks
  exact h.imp fun h => by simpa using h
theorem sortN_lt {ks : List Nat} (h : ks.Nodup) : (sortN ks).Pairwise (· < ·) := by
  have h1 := sortN_le ks
  have h2 : (sortN ks).Nodup := (sortN_perm ks).nodup_iff.mpr h
  exact (h1.and h2).imp fun ⟨a, b⟩ => by omega
theorem sortI_nat (ks : List Nat) : sortI (ks.map fun c : Nat => (c : Int)) = (sortN ks).map fun c : Nat => (c : Int) := by
  refine sorted_uniq ((List.mergeSort_perm _ _).trans ((sortN_perm ks).map _).symm) (sortI_sorted _) ?_
  rw [List.pairwise_map]
  exact (sortN_le ks).imp fun h => by omega
theorem ints_nat : ∀ ks : List Nat, intsD (ks.map nD) = some (ks.map fun c : Nat => (c : Int))
  | [] => rfl
  | c :: ks => by
    show (intsD (ks.map nD)).map _ = _
    rw [ints_nat ks]; rfl
theorem sorted_kv (l : List (Nat × Nat)) (h : l.length < 64) : prD .sorted [.dct (kvN l)] = some (.o (.lst ((sortN (keysN l)).map nD))) := by
  show (intsD _).bind _ = _
  have e : (kvN l).map (·.1) = (keysN l).map nD := by
    unfold kvN keysN
    rw [List.map_map, List.map_map]
    rfl
  rw [e, ints_nat, Option.bind_some, if_pos (by simp [keysN, h]), sortI_nat, List.map_map]
  rfl
end Fm
end

/-! ## part KV -/
section
set_option maxHeartbeats 2000000
namespace Fm
open PySem
@[simp] theorem mtOk_get2 (kvs : List (D × D)) : mtOk .get2 (.dct kvs) = true := Eq.trans rfl rfl
theorem get2_kv (l : List (Nat × Nat)) (c w : Nat) : mtD .get2 (.dct (kvN l)) [nD c, nD w] = some (.d (nD ((getN l c).getD w))) := by
  have e : mtD .get2 (.dct (kvN l)) [nD c, nD w] = if keyOk (nD c) then some (.d ((dgetD (kvN l) (nD c)).getD (nD w))) else none := rfl
  rw [e, if_pos (keyOk_nD c), dget_kv]
  cases getN l c <;> rfl
theorem set_kv (l : List (Nat × Nat)) (c w : Nat) (h : l.length ≤ 100) : setD (.dct (kvN l)) (nD c) (nD w) = some (.dct (kvN (putN l c w))) := by
  have e : setD (.dct (kvN l)) (nD c) (nD w) = if keyOk (nD c) && decide ((kvN l).length < sizeLine) then some (.dct (dputD (kvN l) (nD c) (nD w))) else none := rfl
  have : (kvN l).length < sizeLine := by unfold kvN; rw [List.length_map, sizeLine_eq]; omega
  rw [e, if_pos (by rw [keyOk_nD, decide_eq_true this]; rfl), dput_kv]
theorem ix_kv {l : List (Nat × Nat)} {c v : Nat} (h : getN l c = some v) : ixD (.dct (kvN l)) (nD c) = some (nD v) := by
  have e : ixD (.dct (kvN l)) (nD c) = if keyOk (nD c) then dgetD (kvN l) (nD c) else none := rfl
  rw [e, if_pos (keyOk_nD c), dget_kv, h]; rfl
theorem ne_nD (a b : Nat) : cmpD .ne (nD a) (nD b) = some (!decide (a = b)) := by
  show cmpD .ne (.int _) (.int _) = _
  rw [cmp_neI]
  by_cases h : a = b
  · subst h; simp
  · have : ¬ (a : Int) = (b : Int) := by omega
    simp [h, this]
theorem dzip_l0 (p x : List Nat) (h : p.Nodup) (hl : p.length ≤ 100) : dzipD [tN p, tN (at_ x p)] = some (.dct (kvN (l0 p x))) := by
  show (if _ then _ else _) = _
  have h1 : (List.map (fun c : Nat => D.int (c : Int)) p).all keyOk = true := by
    rw [List.all_map]
    exact List.all_eq_true.mpr fun _ _ => rfl
  rw [if_pos (by simp [h1, at_]; exact fits_of (by omega))]
  congr 2
  have e : (List.map (fun c : Nat => D.int (c : Int)) p).zip (List.map (fun c : Nat => D.int (c : Int)) (at_ x p)) = kvN (l0 p x) := by
    unfold at_ kvN l0
    rw [List.map_map, List.zip_map', List.map_map]
    rfl
  rw [e]
  have := dmerge_kv (l0 p x) [] (by rw [List.nil_append, keys_l0]; exact h)
  rw [List.nil_append] at this
  exact this
theorem zip_l0 (p x : List Nat) : turns .zip [tN p, tN (at_ x p)] = some ((l0 p x).map fun e => .tup [nD e.1, nD e.2]) := by
  rw [zip_tN]
  congr 1
  unfold at_ l0
  rw [show p.zip (p.map fun c => x[c]?.getD 0) = p.map fun c => (c, x[c]?.getD 0) from by
    have := List.zip_map' (f := fun c : Nat => c) (g := fun c => x[c]?.getD 0) (l := p)
    rw [List.map_id'] at this
    exact this]
  rfl
def bothR (p x q y : List Nat) : Option (List Nat × List Nat) := (mergeN (l0 p x) (l0 q y)).map fun l => (sortN (keysN l), (sortN (keysN l)).map fun c => (getN l c).getD 0)
namespace K1
variable {n : Nat} {M : Mem}
abbrev bodyB : List S := [.ifs (.cmp .ne (.mt .get2 (.var 3) [.var 4, .var 5]) (.var 5)) [.ret (.c .non)] [], .setix 3 (.var 4) (.var 5)]
theorem loopB {a0 a1 a2 : Option Val} : ∀ (r l : List (Nat × Nat)) (s4 s5 : Option Val), l.length + r.length ≤ 100 →
    match mergeN l r with
    | none => ∃ ρ', forGo (Tg.t [4, 5]).bind (fun ρ M => execs tab (callF tab n) bodyB ρ M) (r.map fun e => .tup [nD e.1, nD e.2]) [a0, a1, a2, some (.o (.dct (kvN l))), s4, s5] M = .ok (.ret (.d .non)) ρ' M
    | some l' => ∃ t4 t5, forGo (Tg.t [4, 5]).bind (fun ρ M => execs tab (callF tab n) bodyB ρ M) (r.map fun e => .tup [nD e.1, nD e.2]) [a0, a1, a2, some (.o (.dct (kvN l))), s4, s5] M = .ok .nx [a0, a1, a2, some (.o (.dct (kvN l'))), t4, t5] M
  | [], l, s4, s5, _ => ⟨s4, s5, rfl⟩
  | e :: r, l, s4, s5, hl => by
    rw [List.length_cons] at hl
    have hp : (putN l e.1 e.2).length ≤ l.length + 1 := by
      unfold putN
      split <;> simp
    rw [mergeN, List.map_cons]
    by_cases h : (getN l e.1).getD e.2 = e.2
    · rw [if_pos h]
      have ih := loopB (a0 := a0) (a1 := a1) (a2 := a2) r (putN l e.1 e.2) (some (.d (nD e.1))) (some (.d (nD e.2))) (by omega)
      have st : forGo (Tg.t [4, 5]).bind (fun ρ M => execs tab (callF tab n) bodyB ρ M) (.tup [nD e.1, nD e.2] :: r.map fun e => .tup [nD e.1, nD e.2]) [a0, a1, a2, some (.o (.dct (kvN l))), s4, s5] M =
          forGo (Tg.t [4, 5]).bind (fun ρ M => execs tab (callF tab n) bodyB ρ M) (r.map fun e => .tup [nD e.1, nD e.2]) [a0, a1, a2, some (.o (.dct (kvN (putN l e.1 e.2)))), some (.d (nD e.1)), some (.d (nD e.2))] M := by
        rw [forGo]
        simp [bodyB, get2_kv, ne_nD, h, set_kv l e.1 e.2 (by omega)]
      rw [st]
      exact ih
    · rw [if_neg h]
      rw [forGo]
      simp [bodyB, get2_kv, ne_nD, h]
abbrev bodyL : List S := [.ifs (.cmp .ne (.mt .get2 (.var 2) [.var 3, .var 4]) (.var 4)) [.ret (.c .non)] [], .setix 2 (.var 3) (.var 4)]
theorem loopL {a0 a1 : Option Val} : ∀ (r l : List (Nat × Nat)) (s4 s5 : Option Val), l.length + r.length ≤ 100 →
    match mergeN l r with
    | none => ∃ ρ', forGo (Tg.t [3, 4]).bind (fun ρ M => execs tab (callF tab n) bodyL ρ M) (r.map fun e => .tup [nD e.1, nD e.2]) [a0, a1, some (.o (.dct (kvN l))), s4, s5] M = .ok (.ret (.d .non)) ρ' M
    | some l' => ∃ t4 t5, forGo (Tg.t [3, 4]).bind (fun ρ M => execs tab (callF tab n) bodyL ρ M) (r.map fun e => .tup [nD e.1, nD e.2]) [a0, a1, some (.o (.dct (kvN l))), s4, s5] M = .ok .nx [a0, a1, some (.o (.dct (kvN l'))), t4, t5] M
  | [], l, s4, s5, _ => ⟨s4, s5, rfl⟩
  | e :: r, l, s4, s5, hl => by
    rw [List.length_cons] at hl
    have hp : (putN l e.1 e.2).length ≤ l.length + 1 := by
      unfold putN
      split <;> simp
    rw [mergeN, List.map_cons]
    by_cases h : (getN l e.1).getD e.2 = e.2
    · rw [if_pos h]
      have ih := loopL (a0 := a0) (a1 := a1) r (putN l e.1 e.2) (some (.d (nD e.1))) (some (.d (nD e.2))) (by omega)
      have st : forGo (Tg.t [3, 4]).bind (fun ρ M => execs tab (callF tab n) bodyL ρ M) (.tup [nD e.1, nD e.2] :: r.map fun e => .tup [nD e.1, nD e.2]) [a0, a1, some (.o (.dct (kvN l))), s4, s5] M =
          forGo (Tg.t [3, 4]).bind (fun ρ M => execs tab (callF tab n) bodyL ρ M) (r.map fun e => .tup [nD e.1, nD e.2]) [a0, a1, some (.o (.dct (kvN (putN l e.1 e.2)))), some (.d (nD e.1)), some (.d (nD e.2))] M := by
        rw [forGo]
        simp [bodyL, get2_kv, ne_nD, h, set_kv l e.1 e.2 (by omega)]
      rw [st]
      exact ih
    · rw [if_neg h]
      rw [forGo]
      simp [bodyL, get2_kv, ne_nD, h]
theorem key_get {l : List (Nat × Nat)} {c : Nat} (h : c ∈ sortN (keysN l)) : getN l c = some ((getN l c).getD 0) := by
  cases e : getN l c with
  | none => exact absurd ((sortN_perm _).subset h) (getN_none.mp e)
  | some v => rfl
theorem box_from_ok (l : List (Nat × Nat)) (hl : l.length < 64) : callF tab (n + 1) f_box_from [.d (.dct (kvN l))] M = .ok (.d (bx (sortN (keysN l)) ((sortN (keysN l)).map fun c => (getN l c).getD 0))) M := by
  rw [run d_box_from rfl rfl]
  simp [d_box_from, sorted_kv l hl]
  rw [show turns .seq [.tup ((sortN (keysN l)).map nD)] = some ((sortN (keysN l)).map nD) from rfl, Res.of_some, Res.bind_ok]
  rw [lcGo_map (M := M) nD (fun c => nD ((getN l c).getD 0))]
  · simp [bx, tN_eq, List.map_map, Function.comp_def]
  · intro c hc
    refine ⟨_, rfl, by simp, ?_⟩
    have := ix_kv (key_get hc)
    simp [this]
  · have : (sortN (keysN l)).length = l.length := by rw [(sortN_perm _).length_eq]; simp [keysN]
    simp
    omega
theorem both_ok (szs p x q y : List Nat) (hs : szs ∈ SZ) (h : InC szs x) (hp : Pat szs.length p) (h' : InC szs y) (hq : Pat szs.length q) :
    callF tab (n + 6) f_both [.d (tN szs), .d (bx p (at_ x p)), .d (bx q (at_ y q))] M = .ok (.d (ob (bothR p x q y))) M := by
  have hl := (sz_len szs hs).1
  have lp := hp.len
  have lq := hq.len
  have np : p.Nodup := hp.1.imp fun z => Nat.ne_of_lt z
  have nq : q.Nodup := hq.1.imp fun z => Nat.ne_of_lt z
  rw [run d_both rfl rfl]
  simp [d_both, check_sizes_ok szs hs, check_box_ok szs p x h hp hl, check_box_ok szs q y h' hq hl, dzip_l0 p x np (by omega), zip_l0]
  have lo := loopB (n := n + 5) (M := M) (a0 := some (.d (tN szs))) (a1 := some (.d (bx p (at_ x p)))) (a2 := some (.d (bx q (at_ y q)))) (l0 q y) (l0 p x) none none (by simp [l0]; omega)
  unfold bothR
  cases e : mergeN (l0 p x) (l0 q y) with
  | none =>
    rw [e] at lo
    obtain ⟨ρ', hr⟩ := lo
    simp [bodyB] at hr
    simp [hr, ob]
  | some l =>
    rw [e] at lo
    obtain ⟨s4, s5, hr⟩ := lo
    have hlen := (mergeN_some (by rw [keys_l0]; exact np) (by rw [keys_l0]; exact nq) e).2.1
    simp [l0] at hlen
    simp [bodyB] at hr
    simp [hr, ob, box_from_ok l (by omega)]
theorem law_both_ok (k : Nat) (p x q y : List Nat) (hk : k ≤ 5) (hp : Pat k p) (hq : Pat k q) :
    callF tab (n + 1) f__law_both [.d (bx p (at_ x p)), .d (bx q (at_ y q))] M = .ok (.d (ob (bothR p x q y))) M := by
  have lp := hp.len
  have lq := hq.len
  have np : p.Nodup := hp.1.imp fun z => Nat.ne_of_lt z
  have nq : q.Nodup := hq.1.imp fun z => Nat.ne_of_lt z
  rw [run d__law_both rfl rfl]
  simp [d__law_both, dzip_l0 p x np (by omega), zip_l0]
  have lo := loopL (n := n) (M := M) (a0 := some (.d (bx p (at_ x p)))) (a1 := some (.d (bx q (at_ y q)))) (l0 q y) (l0 p x) none none (by simp [l0]; omega)
  unfold bothR
  cases e : mergeN (l0 p x) (l0 q y) with
  | none =>
    rw [e] at lo
    obtain ⟨ρ', hr⟩ := lo
    simp [bodyL] at hr
    simp [hr, ob]
  | some l =>
    rw [e] at lo
    obtain ⟨s4, s5, hr⟩ := lo
    have hlen := (mergeN_some (by rw [keys_l0]; exact np) (by rw [keys_l0]; exact nq) e).2.1
    simp [l0] at hlen
    simp [bodyL] at hr
    simp [hr, ob, sorted_kv l (by omega)]
    rw [show turns .seq [.lst ((sortN (keysN l)).map nD)] = some ((sortN (keysN l)).map nD) from rfl, Res.of_some, Res.bind_ok]
    rw [lcGo_map (M := M) nD (fun c => nD ((getN l c).getD 0))]
    · simp [bx, tN_eq, List.map_map, Function.comp_def]
    · intro c hc
      refine ⟨_, rfl, by simp, ?_⟩
      have := ix_kv (key_get hc)
      simp [this]
    · have : (sortN (keysN l)).length = l.length := by rw [(sortN_perm _).length_eq]; simp [keysN]
      simp
      omega
end K1
end Fm
end

/-! ## part KW -/
section
set_option maxHeartbeats 2000000
namespace Fm
open PySem
/-! ### boxes meet -/
def agree (p x q y : List Nat) : Prop := ∀ c ∈ q, c ∈ p → x[c]?.getD 0 = y[c]?.getD 0
def un (p q : List Nat) (k : Nat) : List Nat := (List.range k).filter fun c => decide (c ∈ p ∨ c ∈ q)
def mix (p x y : List Nat) (k : Nat) : List Nat := (List.range k).map fun c => if c ∈ p then x[c]?.getD 0 else y[c]?.getD 0
theorem mem_un {p q : List Nat} {k c : Nat} : c ∈ un p q k ↔ c < k ∧ (c ∈ p ∨ c ∈ q) := by
  unfold un
  rw [List.mem_filter, List.mem_range, decide_eq_true_eq]
theorem un_asc (p q : List Nat) (k : Nat) : (un p q k).Pairwise (· < ·) := List.Pairwise.filter _ List.pairwise_lt_range
theorem mix_at {p x y : List Nat} {k c : Nat} (h : c < k) : (mix p x y k)[c]?.getD 0 = if c ∈ p then x[c]?.getD 0 else y[c]?.getD 0 := by
  unfold mix
  rw [List.getElem?_map, List.getElem?_range h]
  rfl
theorem at_eq {x y p : List Nat} : at_ x p = at_ y p ↔ ∀ c ∈ p, x[c]?.getD 0 = y[c]?.getD 0 := by
  unfold at_
  rw [List.map_inj_left]
theorem mem_l0 {q y : List Nat} {e : Nat × Nat} (h : e ∈ l0 q y) : e.1 ∈ q ∧ e.2 = y[e.1]?.getD 0 := by
  unfold l0 at h
  rw [List.mem_map] at h
  obtain ⟨c, hc, rfl⟩ := h
  exact ⟨hc, rfl⟩
namespace K1
variable {k : Nat} {p x q y : List Nat}
theorem both_none (hq : Pat k q) (h : ¬ agree p x q y) : bothR p x q y = none := by
  unfold bothR
  cases e : mergeN (l0 p x) (l0 q y) with
  | none => rfl
  | some l =>
    exfalso
    apply h
    intro c hc hcp
    by_cases hn : (keysN (l0 p x)).Nodup
    · have nq : (keysN (l0 q y)).Nodup := by rw [keys_l0]; exact hq.1.imp fun z => Nat.ne_of_lt z
      have := (mergeN_some hn nq e).2.2.1 (c, y[c]?.getD 0) (by unfold l0; exact List.mem_map.mpr ⟨c, hc, rfl⟩) (x[c]?.getD 0) (by rw [get_l0, if_pos hcp])
      exact this
    · -- a pattern's columns are unlike: not needed otherwise
      have key : ∀ (r l l' : List (Nat × Nat)), (keysN r).Nodup → mergeN l r = some l' → ∀ e ∈ r, ∀ v, getN l e.1 = some v → v = e.2 := by
        intro r
        induction r with
        | nil => intro l l' _ _ e he; nomatch he
        | cons f r ih =>
          intro l l' nr h e he v hv
          unfold keysN at nr
          rw [List.map_cons, List.nodup_cons] at nr
          rw [mergeN] at h
          split at h
          · rename_i hg
            rcases List.mem_cons.mp he with rfl | he
            · rw [hv] at hg; exact hg
            · refine ih _ _ nr.2 h e he v ?_
              rw [getN_put, if_neg fun hc => nr.1 (by rw [← hc]; exact List.mem_map_of_mem he)]
              exact hv
          · cases h
      have nq : (keysN (l0 q y)).Nodup := by rw [keys_l0]; exact hq.1.imp fun z => Nat.ne_of_lt z
      exact key _ _ _ nq e (c, y[c]?.getD 0) (by unfold l0; exact List.mem_map.mpr ⟨c, hc, rfl⟩) (x[c]?.getD 0) (by rw [get_l0, if_pos hcp])
theorem both_some (hp : Pat k p) (hq : Pat k q) (h : agree p x q y) : bothR p x q y = some (un p q k, at_ (mix p x y k) (un p q k)) := by
  have np : (keysN (l0 p x)).Nodup := by rw [keys_l0]; exact hp.1.imp fun z => Nat.ne_of_lt z
  have nq : (keysN (l0 q y)).Nodup := by rw [keys_l0]; exact hq.1.imp fun z => Nat.ne_of_lt z
  unfold bothR
  cases e : mergeN (l0 p x) (l0 q y) with
  | none =>
    exfalso
    obtain ⟨f, hf, v, hv, hne⟩ := mergeN_none nq e
    obtain ⟨h1, h2⟩ := mem_l0 hf
    rw [get_l0] at hv
    split at hv
    · rename_i hc
      cases hv
      exact hne (by rw [h2]; exact h f.1 h1 hc)
    · cases hv
  | some l =>
    obtain ⟨h1, h2, h3, h4⟩ := mergeN_some np nq e
    have hg : ∀ c, getN l c = (if c ∈ p then some (x[c]?.getD 0) else none).or (if c ∈ q then some (y[c]?.getD 0) else none) := fun c => by rw [h4, get_l0, get_l0]
    have hr : sortN (keysN l) = un p q k := by
      refine asc_ext (sortN_lt h1) (un_asc p q k) fun c => ?_
      rw [mem_un, (sortN_perm _).mem_iff]
      have hk : c ∈ keysN l ↔ getN l c ≠ none := by
        have := getN_none (l := l) (c := c)
        constructor
        · intro hc hn; exact this.mp hn hc
        · intro hn
          by_cases hc : c ∈ keysN l
          · exact hc
          · exact absurd (this.mpr hc) hn
      rw [hk, hg]
      by_cases h5 : c ∈ p
      · have := hp.2 c h5
        simp [h5, this]
      · by_cases h6 : c ∈ q
        · have := hq.2 c h6
          simp [h5, h6, this]
        · simp [h5, h6]
    simp only [Option.map_some, hr]
    congr 2
    unfold at_
    apply List.map_congr_left
    intro c hc
    rw [mem_un] at hc
    rw [mix_at hc.1, hg]
    by_cases h5 : c ∈ p
    · simp [h5]
    · have h6 : c ∈ q := hc.2.resolve_left h5
      simp [h5, h6]
theorem agree_comm (h : agree p x q y) : agree q y p x := fun c h1 h2 => (h c h2 h1).symm
theorem both_comm (hp : Pat k p) (hq : Pat k q) : bothR q y p x = bothR p x q y := by
  by_cases h : agree p x q y
  · rw [both_some hp hq h, both_some hq hp (agree_comm h)]
    have e : un q p k = un p q k := asc_ext (un_asc _ _ _) (un_asc _ _ _) fun c => by rw [mem_un, mem_un, Or.comm]
    rw [e]
    congr 2
    rw [at_eq]
    intro c hc
    rw [mem_un] at hc
    rw [mix_at hc.1, mix_at hc.1]
    by_cases h5 : c ∈ p
    · by_cases h6 : c ∈ q
      · simp [h5, h6, h c h6 h5]
      · simp [h5, h6]
    · have h6 : c ∈ q := hc.2.resolve_left h5
      simp [h5, h6]
  · rw [both_none hq h, both_none hp fun z => h (agree_comm z)]
theorem both_self (hp : Pat k p) : bothR p x p x = some (p, at_ x p) := by
  rw [both_some hp hp fun c _ _ => rfl]
  have e : un p p k = p := asc_ext (un_asc _ _ _) hp.1 fun c => by
    rw [mem_un]
    exact ⟨fun h => h.2.elim id id, fun h => ⟨hp.2 c h, .inl h⟩⟩
  rw [e]
  congr 2
  rw [at_eq]
  intro c hc
  rw [mix_at (hp.2 c hc), if_pos hc]
theorem pat_nil : Pat k [] := ⟨List.Pairwise.nil, fun c h => nomatch h⟩
theorem both_nil (hp : Pat k p) : bothR p x [] y = some (p, at_ x p) := by
  rw [both_some hp pat_nil fun c h => nomatch h]
  have e : un p [] k = p := asc_ext (un_asc _ _ _) hp.1 fun c => by
    rw [mem_un]
    exact ⟨fun h => h.2.elim id fun z => (nomatch z), fun h => ⟨hp.2 c h, .inl h⟩⟩
  rw [e]
  congr 2
  rw [at_eq]
  intro c hc
  rw [mix_at (hp.2 c hc), if_pos hc]
theorem un_pat : Pat k (un p q k) := ⟨un_asc _ _ _, fun c h => (mem_un.mp h).1⟩
theorem mix_in {szs : List Nat} (hx : InC szs x) (hy : InC szs y) : InC szs (mix p x y szs.length) := by
  refine ⟨by simp [mix], fun i v s e1 e2 => ?_⟩
  have hi : i < szs.length := (List.getElem?_eq_some_iff.mp e2).1
  have e : (mix p x y szs.length)[i]?.getD 0 = v := by rw [e1]; rfl
  rw [mix_at hi] at e
  have h1 := hx.2 i _ s (getD_at (by rw [hx.1]; exact hi)) e2
  have h2 := hy.2 i _ s (getD_at (by rw [hy.1]; exact hi)) e2
  split at e <;> omega
/-- what is common to two boxes -/
def common (szs p x q y : List Nat) : List (List Nat) := (inB szs p (at_ x p)).filter fun w => decide (at_ w q = at_ y q)
theorem mem_common {szs w : List Nat} : w ∈ common szs p x q y ↔ InC szs w ∧ at_ w p = at_ x p ∧ at_ w q = at_ y q := by
  unfold common inB
  rw [List.mem_filter, List.mem_filter, mem_allC, decide_eq_true_eq, decide_eq_true_eq, and_assoc]
theorem common_none {szs : List Nat} (h : ¬ agree p x q y) : common szs p x q y = [] := by
  rw [List.eq_nil_iff_forall_not_mem]
  intro w hw
  rw [mem_common, at_eq, at_eq] at hw
  exact h fun c h1 h2 => (hw.2.1 c h2).symm.trans (hw.2.2 c h1)
theorem common_some {szs : List Nat} (hx : InC szs x) (hy : InC szs y) (hp : Pat szs.length p) (hq : Pat szs.length q) (h : agree p x q y) : common szs p x q y ≠ [] ∧ inB szs (un p q szs.length) (at_ (mix p x y szs.length) (un p q szs.length)) = common szs p x q y := by
  have e1 : ∀ c ∈ p, (mix p x y szs.length)[c]?.getD 0 = x[c]?.getD 0 := fun c hc => by rw [mix_at (hp.2 c hc), if_pos hc]
  have e2 : ∀ c ∈ q, (mix p x y szs.length)[c]?.getD 0 = y[c]?.getD 0 := fun c hc => by
    rw [mix_at (hq.2 c hc)]
    split
    · rename_i h5; exact h c hc h5
    · rfl
  constructor
  · intro hn
    have : mix p x y szs.length ∈ common szs p x q y := mem_common.mpr ⟨mix_in hx hy, at_eq.mpr e1, at_eq.mpr e2⟩
    rw [hn] at this
    nomatch this
  · unfold common inB
    rw [List.filter_filter]
    apply List.filter_congr
    intro w _
    have : (at_ w (un p q szs.length) = at_ (mix p x y szs.length) (un p q szs.length)) ↔ (at_ w q = at_ y q ∧ at_ w p = at_ x p) := by
      rw [at_eq, at_eq, at_eq]
      constructor
      · intro hw
        exact ⟨fun c hc => (hw c (mem_un.mpr ⟨hq.2 c hc, .inr hc⟩)).trans (e2 c hc), fun c hc => (hw c (mem_un.mpr ⟨hp.2 c hc, .inl hc⟩)).trans (e1 c hc)⟩
      · rintro ⟨h1, h2⟩ c hc
        rcases (mem_un.mp hc).2 with h5 | h5
        · exact (h2 c h5).trans (e1 c h5).symm
        · exact (h1 c h5).trans (e2 c h5).symm
    by_cases hh : at_ w (un p q szs.length) = at_ (mix p x y szs.length) (un p q szs.length)
    · have := this.mp hh
      simp [hh, this]
    · have h3 : ¬ (at_ w q = at_ y q ∧ at_ w p = at_ x p) := fun z => hh (this.mpr z)
      rw [decide_eq_false hh]
      symm
      rw [← Bool.decide_and, decide_eq_false h3]
end K1
end Fm
end

/-! ## part KX -/
section
set_option maxHeartbeats 4000000
namespace Fm
open PySem
section
variable {ρ : Env} {M : Mem}
@[simp] theorem ixK_r0 (i : Int) (xs : List Val) : ixK (.r 0) (.d (.int i)) (.lst xs :: M) = Res.of ((ixAt xs.length i).bind (xs[·]?)) (.lst xs :: M) := Eq.trans rfl rfl
@[simp] theorem setmK_r0 (y : Val) (i : Int) (xs : List Val) : setmK ρ y (.r 0) (.d (.int i)) (.lst xs :: M) = (Res.of (ixAt xs.length i) (.lst xs :: M)).go ρ fun j M => .ok .nx ρ (M.set 0 (.lst (xs.set j y))) := Eq.trans rfl rfl
end
@[simp] theorem ixAt50 : ixAt 5 0 = some 0 := Eq.trans rfl rfl
@[simp] theorem ixAt51 : ixAt 5 1 = some 1 := Eq.trans rfl rfl
@[simp] theorem ixAt52 : ixAt 5 2 = some 2 := Eq.trans rfl rfl
@[simp] theorem ixAt53 : ixAt 5 3 = some 3 := Eq.trans rfl rfl
@[simp] theorem ixAt54 : ixAt 5 4 = some 4 := Eq.trans rfl rfl
theorem bin_mulR (i j : Int) (h : j.natAbs < 18446744073709551616) : binD .mul (.int i) (.int j) = some (.d (.int (i * j))) := by
  have e : binD .mul (.int i) (.int j) = if mulOk i j then some (.d (.int (i * j))) else none := rfl
  rw [e, if_pos]
  unfold mulOk
  rw [Bool.or_eq_true]
  exact .inr (decide_eq_true h)
theorem bin_mulL (i j : Int) (h : i.natAbs < 18446744073709551616) : binD .mul (.int i) (.int j) = some (.d (.int (i * j))) := by
  have e : binD .mul (.int i) (.int j) = if mulOk i j then some (.d (.int (i * j))) else none := rfl
  rw [e, if_pos]
  unfold mulOk
  rw [Bool.or_eq_true]
  exact .inl (decide_eq_true h)
@[simp] theorem bm1 (i : Int) : binD .mul (.int i) (.int 69621) = some (.d (.int (i * 69621))) := bin_mulR _ _ (by decide)
@[simp] theorem bm2 (i : Int) : binD .mul (.int i) (.int 48271) = some (.d (.int (i * 48271))) := bin_mulR _ _ (by decide)
@[simp] theorem bm3 (i : Int) : binD .mul (.int 7919) (.int i) = some (.d (.int (7919 * i))) := bin_mulL _ _ (by decide)
theorem bin_mod (i j : Int) (h : 0 < j) : binD .mod (.int i) (.int j) = some (.d (.int (i % j))) := by
  have e : binD .mod (.int i) (.int j) = if 0 < j then some (.d (.int (i % j))) else none := rfl
  rw [e, if_pos h]
theorem bin_fdiv (i j : Int) (h : 0 < j) (h2 : j < 1073741824) : binD .fdiv (.int i) (.int j) = some (.d (.int (i / j))) := by
  have e : binD .fdiv (.int i) (.int j) = if 0 < j ∧ j < 1073741824 then some (.d (.int (i / j))) else none := rfl
  rw [e, if_pos ⟨h, h2⟩]
@[simp] theorem bmod1 (i : Int) : binD .mod (.int i) (.int 2147483629) = some (.d (.int (i % 2147483629))) := bin_mod _ _ (by decide)
@[simp] theorem bmod2 (i : Int) : binD .mod (.int i) (.int 2147483647) = some (.d (.int (i % 2147483647))) := bin_mod _ _ (by decide)
@[simp] theorem bmod3 (i : Int) : binD .mod (.int i) (.int 2147483399) = some (.d (.int (i % 2147483399))) := bin_mod _ _ (by decide)
@[simp] theorem bdiv1 (i : Int) : binD .fdiv (.int i) (.int 1009) = some (.d (.int (i / 1009))) := bin_fdiv _ _ (by decide) (by decide)
@[simp] theorem bdiv2 (i : Int) : binD .fdiv (.int i) (.int 2003) = some (.d (.int (i / 2003))) := bin_fdiv _ _ (by decide) (by decide)
@[simp] theorem bdiv3 (i : Int) : binD .fdiv (.int i) (.int 16) = some (.d (.int (i / 16))) := bin_fdiv _ _ (by decide) (by decide)
@[simp] theorem pow18 : binD .pow (.int 10) (.int 18) = some (.d (.int 1000000000000000000)) := by kernel_rfl
theorem modMul (i j : Int) : binD .mul (.int (i % 2147483647)) (.int j) = some (.d (.int (i % 2147483647 * j))) := bin_mulL _ _ (by omega)
namespace K1
variable {n : Nat} {M : Mem}
/-- the hand stands in the store's first cell -/
def HI (M : Mem) : Prop := ∃ (cells : List Int) (a : Nat) (b s t : Int), M = [.lst [.d (.lst (cells.map .int)), .d (.int a), .d (.int b), .d (.int s), .d (.int t)]]
abbrev sD1 : S := .ifs (.and (.cmp .eq (.ix (.var 0) (.c (.int 2))) (.c (.int 0))) (.cmp .lt (.ix (.var 0) (.c (.int 1))) (.pr .len [.ix (.var 0) (.c (.int 0))]))) [.asg (.v 2) (.ix (.ix (.var 0) (.c (.int 0))) (.ix (.var 0) (.c (.int 1)))), .setixm (.var 0) (.c (.int 1)) (.bin .add (.ix (.var 0) (.c (.int 1))) (.c (.int 1))), .setixm (.var 0) (.c (.int 3)) (.bin .mod (.pr .int [.bin .add (.bin .add (.bin .mul (.ix (.var 0) (.c (.int 3))) (.c (.int 69621))) (.var 2)) (.c (.int 11))]) (.c (.int 2147483629))), .ifs (.cmp .ge (.var 2) (.bin .pow (.c (.int 10)) (.c (.int 18)))) [.setixm (.var 0) (.c (.int 2)) (.var 2)] []] []
abbrev sD2 : List S := d__law_draw.body.drop 1
theorem ix_ints {cells : List Int} {a : Nat} (h : a < cells.length) : ixD (.lst (cells.map .int)) (.int (a : Int)) = some (.int (cells[a]'h)) := by
  have e : ixD (.lst (cells.map D.int)) (.int (a : Int)) = (ixAt (cells.map D.int).length (a : Int)).bind ((cells.map D.int)[·]?) := rfl
  rw [e, List.length_map, ixAt_nat h]
  simp [h]
theorem draw1 (m : Int) (h : HI M) : ∃ c M', exec tab (callF tab n) sD1 [some (.r 0), some (.d (.int m)), none, none, none] M = .ok .nx [some (.r 0), some (.d (.int m)), c, none, none] M' ∧ HI M' := by
  obtain ⟨cells, a, b, s, t, rfl⟩ := h
  simp
  by_cases hb : b = 0
  · by_cases ha : a < cells.length
    · simp [hb, ha, ix_ints ha]
      by_cases hc : (1000000000000000000 : Int) ≤ cells[a]
      · simp [hc]
        first | exact ⟨_, _, ⟨rfl, rfl⟩, cells, a + 1, _, _, _, rfl⟩ | exact ⟨_, _, rfl, cells, a + 1, _, _, _, rfl⟩ | exact ⟨_, rfl, cells, a + 1, _, _, _, rfl⟩ | exact ⟨⟨_, rfl⟩, cells, a + 1, _, _, _, rfl⟩ | exact ⟨cells, a + 1, _, _, _, rfl⟩
      · simp [hc]
        first | exact ⟨_, _, ⟨rfl, rfl⟩, cells, a + 1, _, _, _, rfl⟩ | exact ⟨_, _, rfl, cells, a + 1, _, _, _, rfl⟩ | exact ⟨_, rfl, cells, a + 1, _, _, _, rfl⟩ | exact ⟨⟨_, rfl⟩, cells, a + 1, _, _, _, rfl⟩ | exact ⟨cells, a + 1, _, _, _, rfl⟩
    · simp [hb, ha]
      first | exact ⟨_, _, ⟨rfl, rfl⟩, cells, a, _, _, _, rfl⟩ | exact ⟨_, _, rfl, cells, a, _, _, _, rfl⟩ | exact ⟨_, rfl, cells, a, _, _, _, rfl⟩ | exact ⟨⟨_, rfl⟩, cells, a, _, _, _, rfl⟩ | exact ⟨cells, a, _, _, _, rfl⟩
  · simp [hb]
    first | exact ⟨_, _, ⟨rfl, rfl⟩, cells, a, _, _, _, rfl⟩ | exact ⟨_, _, rfl, cells, a, _, _, _, rfl⟩ | exact ⟨_, rfl, cells, a, _, _, _, rfl⟩ | exact ⟨⟨_, rfl⟩, cells, a, _, _, _, rfl⟩ | exact ⟨cells, a, _, _, _, rfl⟩
theorem draw2 (m : Int) (hm : 0 < m) (hm2 : m < 1073741824) (c : Option Val) (h : HI M) : ∃ r M', (execs tab (callF tab n) sD2 [some (.r 0), some (.d (.int m)), c, none, none] M).res = .ok (.d (.int r)) M' ∧ HI M' ∧ 0 ≤ r ∧ r < m := by
  obtain ⟨cells, a, b, s, t, rfl⟩ := h
  have l1 : ∀ i : Int, 0 ≤ i % m ∧ i % m < m := fun i => ⟨Int.emod_nonneg _ (by omega), Int.emod_lt_of_pos _ hm⟩
  by_cases hb : 0 < b
  · simp [sD2, d__law_draw, hb, bin_mod _ m hm, bin_fdiv _ m hm hm2]
    exact ⟨_, _, ⟨rfl, rfl⟩, ⟨cells, a, _, _, _, rfl⟩, l1 _⟩
  · simp [sD2, d__law_draw, hb, bin_mod _ m hm, bin_fdiv _ m hm hm2, modMul]
    exact ⟨_, _, ⟨rfl, rfl⟩, ⟨cells, a, _, _, _, rfl⟩, l1 _⟩
theorem draw_ok (m : Int) (hm : 0 < m) (hm2 : m < 1073741824) (h : HI M) : ∃ r M', callF tab (n + 1) f__law_draw [.r 0, .d (.int m)] M = .ok (.d (.int r)) M' ∧ HI M' ∧ 0 ≤ r ∧ r < m := by
  rw [run d__law_draw rfl rfl]
  have e : d__law_draw.body = sD1 :: sD2 := rfl
  rw [e, xs_cons]
  obtain ⟨c, M1, h1, h2⟩ := draw1 (n := n) m h
  have e0 : [Val.r 0, Val.d (.int m)].map some ++ List.replicate (d__law_draw.nn - [Val.r 0, Val.d (.int m)].length) none = [some (.r 0), some (.d (.int m)), none, none, none] := rfl
  rw [e0, h1, RS.nx_nx]
  exact draw2 m hm hm2 c h2
end K1
end Fm
end

/-! ## part KY -/
section
set_option maxHeartbeats 4000000
namespace Fm
open PySem
@[simp] theorem abs_int (i : Int) : prD .abs [.int i] = some (.d (.int (if i < 0 then -i else i))) := Eq.trans rfl rfl
theorem range1_of (k : Nat) (h : k ≤ 4096) : turns .range1 [.int (k : Int)] = some ((List.range k).map nD) := by
  have e : turns .range1 [.int (k : Int)] = if -(2 ^ 62) ≤ (k : Int) ∧ (k : Int) < 2 ^ 62 then some ((List.range (k : Int).toNat).map fun (k : Nat) => D.int k) else none := rfl
  have h1 : -(2 ^ 62) ≤ (k : Int) ∧ (k : Int) < 2 ^ 62 := by
    have : (2 : Int) ^ 62 = 4611686018427387904 := by decide
    rw [this]
    omega
  rw [e, if_pos h1]
  rfl
namespace K1
variable {n : Nat} {M : Mem}
theorem hand_ok (ns : List Int) (hl : ns.length ≤ 63) : ∃ M', callF tab (n + 1) f__law_hand [.d (.scr ns)] [] = .ok (.r 0) M' ∧ HI M' := by
  rw [run d__law_hand rfl rfl]
  simp [d__law_hand]
  rw [show slD (.scr ns) none (some 63) = some (.o (.lst ((cutD ns none (some 63)).map D.int))) from rfl]
  have hc : (cutD ns none (some 63)).length ≤ 63 := by
    unfold cutD
    simp
    omega
  simp
  rw [show turns .seq [.lst ((cutD ns none (some 63)).map D.int)] = some ((cutD ns none (some 63)).map D.int) from rfl, Res.of_some, Res.bind_ok]
  rw [lcGo_map (M := []) D.int (fun i => D.int (if i < 0 then -i else i))]
  · simp [fits_of]
    exact ⟨(cutD ns none (some 63)).map fun i => if i < 0 then -i else i, 0, 0, 1 + ((cutD ns none (some 63)).length : Int), 0, by simp [List.map_map, Function.comp_def]⟩
  · intro i _
    refine ⟨_, rfl, by simp, ?_⟩
    simp
  · simp
    omega
theorem some_ok (xs : List D) (h0 : 0 < xs.length) (h1 : xs.length ≤ 4096) (h : HI M) : ∃ x M', x ∈ xs ∧ callF tab (n + 2) f__law_some [.r 0, .d (.lst xs)] M = .ok (.d x) M' ∧ HI M' := by
  obtain ⟨r, M', e, h2, h3, h4⟩ := draw_ok (n := n) (xs.length : Int) (by omega) (by omega) h
  rw [run d__law_some rfl rfl]
  obtain ⟨i, rfl⟩ := Int.eq_ofNat_of_zero_le h3
  have hi : i < xs.length := by omega
  have e2 : ixD (.lst xs) (.int (i : Int)) = some xs[i] := by
    have q : ixD (.lst xs) (.int (i : Int)) = (ixAt xs.length (i : Int)).bind (xs[·]?) := rfl
    rw [q, ixAt_nat hi]
    simp [hi]
  refine ⟨xs[i], M', List.getElem_mem _, ?_, h2⟩
  simp [d__law_some, e, e2]
abbrev mA : E := .lst [.tup [.c (.int 2), .c (.int 2), .c (.int 2), .c (.int 2), .c (.int 2)], .tup [.c (.int 4), .c (.int 4)], .tup [.c (.int 3), .c (.int 3), .c (.int 2)], .tup [.c (.int 2), .c (.int 4), .c (.int 2), .c (.int 2)], .tup [.c (.int 4), .c (.int 4), .c (.int 4)]]
abbrev mB : E := .lst [.tup [.c (.int 2), .c (.int 2), .c (.int 2)], .tup [.c (.int 2), .c (.int 3), .c (.int 2)], .tup [.c (.int 3), .c (.int 2), .c (.int 2)], .tup [.c (.int 2), .c (.int 2)], .tup [.c (.int 3), .c (.int 2)], .tup [.c (.int 2), .c (.int 2), .c (.int 3)], .tup [.c (.int 4)], .tup [.c (.int 2), .c (.int 2), .c (.int 2), .c (.int 2)], .tup [.c (.int 2)]]
def menuA : List (List Nat) := SZ.take 5
def menuB : List (List Nat) := SZ.drop 5
theorem mA_ok (call : CallF) (ρ : Env) : eval tab call mA ρ M = .ok (.o (.lst (menuA.map tN))) M := by kernel_rfl
theorem mB_ok (call : CallF) (ρ : Env) : eval tab call mB ρ M = .ok (.o (.lst (menuB.map tN))) M := by kernel_rfl
theorem sizes_ok (h : HI M) : ∃ szs M', szs ∈ SZ ∧ callF tab (n + 3) f__law_sizes [.r 0] M = .ok (.d (tN szs)) M' ∧ HI M' := by
  obtain ⟨r, M1, e1, h1, _, _⟩ := draw_ok (n := n + 1) 12 (by decide) (by decide) h
  have e : d__law_sizes.body = [.ifs (.cmp .eq (.call f__law_draw [.var 0, .c (.int 12)]) (.c (.int 0))) [.ret (.call f__law_some [.var 0, mA])] [], .ret (.call f__law_some [.var 0, mB])] := rfl
  rw [run d__law_sizes rfl rfl, e]
  by_cases hr : r = 0
  · obtain ⟨x, M2, hx, e2, h2⟩ := some_ok (n := n) (menuA.map tN) (by decide) (by decide) h1
    obtain ⟨szs, hs, rfl⟩ := List.mem_map.mp hx
    refine ⟨szs, M2, List.mem_of_mem_take hs, ?_, h2⟩
    simp only [xs_cons, xs_nil, x_ifs, x_ret, ev_cmp, ev_call, as_cons, as_nil, ev_var, ev_c, mA_ok]
    simp [d__law_sizes, e1, hr, e2]
  · obtain ⟨x, M2, hx, e2, h2⟩ := some_ok (n := n) (menuB.map tN) (by decide) (by decide) h1
    obtain ⟨szs, hs, rfl⟩ := List.mem_map.mp hx
    refine ⟨szs, M2, List.mem_of_mem_drop hs, ?_, h2⟩
    simp only [xs_cons, xs_nil, x_ifs, x_ret, ev_cmp, ev_call, as_cons, as_nil, ev_var, ev_c, mB_ok]
    simp [d__law_sizes, e1, hr, e2]
theorem pat_go {ρ0 : Env} {bind : D → Option Env} {test : Env → Mem → Res Bool} {elt : Env → Mem → Res D}
    (hb : ∀ c M, HI M → ∃ ρ b M', bind (nD c) = some ρ ∧ test ρ M = .ok b M' ∧ HI M' ∧ ∀ M, elt ρ M = .ok (nD c) M) : ∀ (xs : List Nat) (acc : List D) (M : Mem), HI M → acc.length + xs.length ≤ 4096 →
    ∃ (ys : List Nat) (M' : Mem), lcGo bind test elt (xs.map nD) acc M = .ok (acc ++ ys.map nD) M' ∧ HI M' ∧ ys.Sublist xs
  | [], acc, M, h, _ => ⟨[], M, by simp [lcGo], h, List.Sublist.slnil⟩
  | c :: xs, acc, M, h, hl => by
    obtain ⟨ρ, b, M1, e1, e2, h1, e3⟩ := hb c M h
    rw [List.length_cons] at hl
    rw [List.map_cons, lcGo, e1, Res.of_some, Res.bind_ok, e2, Res.bind_ok]
    cases b with
    | false =>
      obtain ⟨ys, M2, q1, q2, q3⟩ := pat_go (ρ0 := ρ0) hb xs acc M1 h1 (by omega)
      exact ⟨ys, M2, by rw [if_neg Bool.false_ne_true, q1], q2, q3.cons _⟩
    | true =>
      obtain ⟨ys, M2, q1, q2, q3⟩ := pat_go (ρ0 := ρ0) hb xs (acc ++ [nD c]) M1 h1 (by simp; omega)
      have hs : acc.length < sizeLine := by rw [sizeLine_eq]; omega
      refine ⟨c :: ys, M2, ?_, q2, q3.cons_cons _⟩
      rw [if_pos rfl, e3, Res.bind_ok, if_pos hs, q1]
      simp
theorem pattern_ok (k : Nat) (hk : k ≤ 5) (h : HI M) : ∃ p M', Pat k p ∧ callF tab (n + 2) f__law_pattern [.r 0, .d (.int k)] M = .ok (.d (tN p)) M' ∧ HI M' := by
  rw [run d__law_pattern rfl rfl]
  simp [d__law_pattern, range1_of k (by omega)]
  obtain ⟨ys, M', e, h1, h2⟩ := pat_go (ρ0 := []) (bind := fun x => some [some (.r 0), some (.d (.int k)), some (.d x)])
    (test := fun ρ M => (((((rd ρ[0]? M).bind fun v M => (Res.of v.toArg M).bind fun x M => Res.ok [x, .d (.int 2)] M).bind fun xs M => callF tab (n + 1) f__law_draw xs M).bind fun x M => (Res.of x.peek M).bind fun x M => (Res.of (cmpD .eq x (.int 0)) M).bind fun t M => Res.ok (Val.d (.bl t)) M).bind fun v M => (Res.of v.truth M).bind fun t M => if t = true then Res.ok true M else Res.ok false M).nox)
    (elt := fun ρ M => ((rd ρ[2]? M).bind fun v M => Res.of v.toD M).nox) (fun c M h => by
      obtain ⟨r, M1, e1, h1, _, _⟩ := draw_ok (n := n) 2 (by decide) (by decide) h
      refine ⟨_, decide (r = 0), M1, rfl, ?_, h1, fun M => ?_⟩
      · by_cases hr : r = 0 <;> simp [e1, hr]
      · simp) (List.range k) [] M h (by simp; omega)
  have hp : Pat k ys := ⟨List.Pairwise.sublist h2 List.pairwise_lt_range, fun c hc => List.mem_range.mp (h2.subset hc)⟩
  refine ⟨ys, hp, M', ?_, h1⟩
  rw [e]
  simp [tN_eq]
end K1
end Fm
end

/-! ## part KZ -/
section
set_option maxHeartbeats 4000000
namespace Fm
open PySem
theorem ne_lN (a b : List (List Nat)) : cmpD .ne (lN a) (lN b) = some (!decide (a = b)) := by
  have e : cmpD .ne (lN a) (lN b) = (cmpEq (lN a) (lN b)).map (!·) := rfl
  rw [e, cmp_lN]; rfl
theorem eq_lN (a b : List (List Nat)) : cmpD .eq (lN a) (lN b) = some (decide (a = b)) := cmp_lN a b
theorem ne_bx (p ws q vs : List Nat) : cmpD .ne (bx p ws) (bx q vs) = some (!decide (p = q ∧ ws = vs)) := by
  have e : cmpD .ne (bx p ws) (bx q vs) = (cmpEq (bx p ws) (bx q vs)).map (!·) := rfl
  rw [e, cmp_bx]; rfl
theorem ne_ob (a b : Option (List Nat × List Nat)) : cmpD .ne (ob a) (ob b) = some (!decide (a = b)) := by
  have e : cmpD .ne (ob a) (ob b) = (cmpEq (ob a) (ob b)).map (!·) := rfl
  rw [e, cmp_ob]; rfl
theorem ne_ob_bx (a : Option (List Nat × List Nat)) (p ws : List Nat) : cmpD .ne (ob a) (bx p ws) = some (!decide (a = some (p, ws))) := by rw [ob_bx, ne_ob]
theorem is_ob (a : Option (List Nat × List Nat)) : cmpD .is (ob a) .non = some (decide (a = none)) := is_non_ob a
theorem isnot_ob (a : Option (List Nat × List Nat)) : cmpD .isnot (ob a) .non = some (!decide (a = none)) := by
  have e : cmpD .isnot (ob a) .non = (cmpIs (ob a) .non).map (!·) := rfl
  rw [e, is_non_ob]; rfl
@[simp] theorem isnot_tt : cmpD .isnot (.bl true) (.bl true) = some false := Eq.trans rfl rfl
@[simp] theorem isT_lN (a : List (List Nat)) : isT .list (lN a) = some true := Eq.trans rfl rfl
@[simp] theorem fits_0 : fits 0 = true := fits_of (by decide)
theorem lN_nil : (D.lst []) = lN [] := rfl
theorem bx_nil : D.tup [.tup [], .tup []] = bx [] [] := rfl
theorem seq_lN (a : List (List Nat)) : turns .seq [lN a] = some (a.map tN) := rfl
namespace K1
variable {n : Nat} {M : Mem} {ρ : Env}
abbrev bE : E := .call f__law_box [.call f__law_pattern [.var 1, .pr .len [.var 3]], .call f__law_some [.var 1, .var 4]]
abbrev cE (i j : Nat) : E := .lc (.var 13) (.v 13) .seq [.var j] [.call f__law_is_in [.var i, .var 13]] [13]
abbrev e4 : E := .or (.cmp .ne (.call f_box_at [.var 3, .ix (.var 7) (.c (.int 0)), .var 9]) (.call f__law_box [.ix (.var 7) (.c (.int 0)), .var 9])) (.cmp .isnot (.call f_is_box [.var 3, .var 7]) (.c (.bl true)))
abbrev e6 : E := .or (.cmp .ne (.var 10) (cE 7 4)) (.not (.isi (.var 10) .list))
abbrev e8 : E := .or (.cmp .ne (.var 11) (.call f__law_both [.var 7, .var 8])) (.or (.cmp .ne (.call f_both [.var 3, .var 8, .var 7]) (.var 11)) (.cmp .ne (.call f_both [.var 3, .var 7, .var 7]) (.var 7)))
abbrev e10 : E := .or (.cmp .ne (.cmp .is (.var 11) (.c .non)) (.cmp .eq (.var 12) (.lst []))) (.and (.cmp .isnot (.var 11) (.c .non)) (.cmp .ne (.call f_in_box [.var 3, .var 11]) (.var 12)))
abbrev e11 : E := .or (.cmp .ne (.call f_both [.var 3, .var 7, .tup [.tup [], .tup []]]) (.var 7)) (.cmp .ne (.call f_in_box [.var 3, .tup [.tup [], .tup []]]) (.var 4))
abbrev no (e : E) : S := .ifs e [.ret (.c (.bl false))] []
abbrev IB : List S := [.asg (.v 7) bE, .asg (.v 8) bE, .asg (.v 9) (.call f__law_some [.var 1, .var 4]), no e4, .asg (.v 10) (.call f_in_box [.var 3, .var 7]), no e6, .asg (.v 11) (.call f_both [.var 3, .var 7, .var 8]), no e8, .asg (.v 12) (cE 8 10), no e10, no e11]
abbrev o4 : E := .or (.cmp .ne (.var 5) (.var 4)) (.not (.isi (.var 5) .list))
abbrev o6 : E := .cmp .ne (.call f_contents [.var 3]) (.var 4)
abbrev OB : List S := [.asg (.v 3) (.call f__law_sizes [.var 1]), .asg (.v 4) (.call f__law_contents [.var 3]), .own 5 (.call f_contents [.var 3]), no o4, .mu .clear 5 [], no o6, .fors (.v 6) .range1 [.c (.int 5)] IB]
theorem law_body : d_law.body = [.asg (.v 1) (.call f__law_hand [.var 0]), .fors (.v 2) .range1 [.c (.int 3)] OB, .ret (.c (.bl true))] := rfl
theorem boxE {szs : List Nat} (hs : szs ∈ SZ) (h1 : ρ[1]? = some (some (.r 0))) (h3 : ρ[3]? = some (some (.d (tN szs)))) (h4 : ρ[4]? = some (some (.d (lN (allC szs))))) (h : HI M) :
    ∃ p x M', Pat szs.length p ∧ InC szs x ∧ eval tab (callF tab (n + 6)) bE ρ M = .ok (.d (bx p (at_ x p))) M' ∧ HI M' := by
  obtain ⟨l1, l2, l3⟩ := sz_len szs hs
  obtain ⟨p, M1, hp, e1, g1⟩ := pattern_ok (n := n + 4) szs.length l1 h
  obtain ⟨d, M2, hd, e2, g2⟩ := some_ok (n := n + 4) ((allC szs).map tN) (by simpa using l3) (by simp; omega) g1
  obtain ⟨x, hx, rfl⟩ := List.mem_map.mp hd
  have hx' := mem_allC.mp hx
  have lp := hp.len
  refine ⟨p, x, M2, hp, hx', ?_, g2⟩
  have e2' : callF tab (n + 4 + 2) f__law_some [.r 0, .d (lN (allC szs))] M1 = .ok (.d (tN x)) M2 := e2
  simp [h1, h3, h4, e1, e2', law_box_ok p x (fun c hc => by rw [hx'.1]; exact hp.2 c hc) (by omega)]
theorem someE {szs : List Nat} (hs : szs ∈ SZ) (h1 : ρ[1]? = some (some (.r 0))) (h4 : ρ[4]? = some (some (.d (lN (allC szs))))) (h : HI M) :
    ∃ x M', InC szs x ∧ eval tab (callF tab (n + 6)) (.call f__law_some [.var 1, .var 4]) ρ M = .ok (.d (tN x)) M' ∧ HI M' := by
  obtain ⟨l1, l2, l3⟩ := sz_len szs hs
  obtain ⟨d, M2, hd, e2, g2⟩ := some_ok (n := n + 4) ((allC szs).map tN) (by simpa using l3) (by simp; omega) h
  obtain ⟨x, hx, rfl⟩ := List.mem_map.mp hd
  have e2' : callF tab (n + 4 + 2) f__law_some [.r 0, .d (lN (allC szs))] M = .ok (.d (tN x)) M2 := e2
  refine ⟨x, M2, mem_allC.mp hx, ?_, g2⟩
  simp [h1, h4, e2']
theorem compE {i j : Nat} {xs : List (List Nat)} {p ws : List Nat} (hi : i ≠ 13) (hl : 13 < ρ.length) (hj : ρ[j]? = some (some (.d (lN xs)))) (hb : ρ[i]? = some (some (.d (bx p ws)))) (hx : ∀ w ∈ xs, ∀ c ∈ p, c < w.length) (hp : p.length ≤ 100) (hxs : xs.length ≤ 4096) :
    eval tab (callF tab (n + 6)) (cE i j) ρ M = .ok (.o (lN (xs.filter fun w => decide (at_ w p = ws)))) M := by
  simp only [ev_lc, ps_cons, ps_nil, ev_var, hj, rd_d, Res.bind_ok, Res.of_some, peek_d, seq_lN]
  rw [lcGo_pure (M := M) tN (fun w => decide (at_ w p = ws)) tN]
  · simp [lN]
  · intro w hw
    have hl' : 13 < (ρ.set 13 none).length := by rw [List.length_set]; exact hl
    refine ⟨_, rfl, ?_, fun _ => ?_⟩
    · have q1 : ((wipeE ρ [13]).set 13 (some (Val.d (tN w))))[13]? = some (some (.d (tN w))) := List.getElem?_set_self hl'
      have q2 : ((wipeE ρ [13]).set 13 (some (Val.d (tN w))))[i]? = some (some (.d (bx p ws))) := by
        rw [List.getElem?_set_ne (Ne.symm hi), wipeE_cons, wipeE_nil, List.getElem?_set_ne (Ne.symm hi), hb]
      simp only [all_cons, all_nil, ev_call, as_cons, as_nil, ev_var, q1, q2, rd_d, Res.bind_ok, Res.of_some, toArg_d]
      rw [law_is_in_ok p ws w (hx w hw) hp]
      by_cases hh : at_ w p = ws <;> simp [hh]
    · have q1 : ((wipeE ρ [13]).set 13 (some (Val.d (tN w))))[13]? = some (some (.d (tN w))) := List.getElem?_set_self hl'
      simp only [ev_var, q1, rd_d, Res.bind_ok, toD_d, Res.of_some, Res.nox_ok]
  · simpa using hxs
theorem e4_ok {szs p x z : List Nat} (hs : szs ∈ SZ) (hp : Pat szs.length p) (hx : InC szs x) (hz : InC szs z) (h3 : ρ[3]? = some (some (.d (tN szs)))) (h7 : ρ[7]? = some (some (.d (bx p (at_ x p))))) (h9 : ρ[9]? = some (some (.d (tN z)))) :
    eval tab (callF tab (n + 6)) e4 ρ M = .ok (.d (.bl false)) M := by
  have lp := hp.len
  have l1 := (sz_len szs hs).1
  simp [h3, h7, h9, box_at_ok szs p z hs hz hp, law_box_ok p z (fun c hc => by rw [hz.1]; exact hp.2 c hc) (by omega), ne_bx, is_box_ok szs p x hs hx hp]
theorem e6_ok {szs p x : List Nat} (hs : szs ∈ SZ) (hp : Pat szs.length p) (hx : InC szs x) (hl : 13 < ρ.length) (h4 : ρ[4]? = some (some (.d (lN (allC szs))))) (h7 : ρ[7]? = some (some (.d (bx p (at_ x p))))) (h10 : ρ[10]? = some (some (.d (lN (inB szs p (at_ x p)))))) :
    eval tab (callF tab (n + 6)) e6 ρ M = .ok (.d (.bl false)) M := by
  have lp := hp.len
  obtain ⟨l1, l2, l3⟩ := sz_len szs hs
  have c := fun M => compE (n := n) (M := M) (i := 7) (j := 4) (by decide) hl h4 h7 (fun w hw c hc => by rw [(mem_allC.mp hw).1]; exact hp.2 c hc) (by omega) (by omega)
  rw [ev_or, ev_cmp]
  simp only [c]
  simp [h10, ne_lN, inB]
theorem e8_ok {szs p x q y : List Nat} (hs : szs ∈ SZ) (hp : Pat szs.length p) (hx : InC szs x) (hq : Pat szs.length q) (hy : InC szs y) (h3 : ρ[3]? = some (some (.d (tN szs)))) (h7 : ρ[7]? = some (some (.d (bx p (at_ x p))))) (h8 : ρ[8]? = some (some (.d (bx q (at_ y q))))) (h11 : ρ[11]? = some (some (.d (ob (bothR p x q y))))) :
    eval tab (callF tab (n + 6)) e8 ρ M = .ok (.d (.bl false)) M := by
  have l1 := (sz_len szs hs).1
  simp [h3, h7, h8, h11, law_both_ok szs.length p x q y l1 hp hq, both_ok szs q y p x hs hy hq hx hp, both_ok szs p x p x hs hx hp hx hp, ne_ob, ne_ob_bx, both_comm hp hq, both_self hp]
theorem e10_ok {szs p x q y : List Nat} (hs : szs ∈ SZ) (hp : Pat szs.length p) (hx : InC szs x) (hq : Pat szs.length q) (hy : InC szs y) (h3 : ρ[3]? = some (some (.d (tN szs)))) (h11 : ρ[11]? = some (some (.d (ob (bothR p x q y))))) (h12 : ρ[12]? = some (some (.d (lN (common szs p x q y))))) :
    eval tab (callF tab (n + 6)) e10 ρ M = .ok (.d (.bl false)) M := by
  by_cases h : agree p x q y
  · obtain ⟨c1, c2⟩ := common_some hx hy hp hq h
    have eb := both_some hp hq h
    rw [eb] at h11
    have ib := in_box_ok (n := n) (M := M) szs (un p q szs.length) (mix p x y szs.length) hs (mix_in hx hy) un_pat
    rw [c2] at ib
    simp [h3, h11, h12, is_ob, isnot_ob, lN_nil, eq_lN, c1]
    rw [show ob (some (un p q szs.length, at_ (mix p x y szs.length) (un p q szs.length))) = bx (un p q szs.length) (at_ (mix p x y szs.length) (un p q szs.length)) from rfl, ib]
    simp [h12, ne_lN]
  · rw [both_none hq h] at h11
    rw [common_none h] at h12
    simp [h3, h11, h12, is_ob, isnot_ob, lN_nil, eq_lN]
theorem e11_ok {szs p x : List Nat} (hs : szs ∈ SZ) (hp : Pat szs.length p) (hx : InC szs x) (h3 : ρ[3]? = some (some (.d (tN szs)))) (h4 : ρ[4]? = some (some (.d (lN (allC szs))))) (h7 : ρ[7]? = some (some (.d (bx p (at_ x p))))) :
    eval tab (callF tab (n + 6)) e11 ρ M = .ok (.d (.bl false)) M := by
  have b := both_ok (n := n) (M := M) szs p x [] x hs hx hp hx pat_nil
  have i := in_box_ok (n := n) (M := M) szs [] x hs hx pat_nil
  have e0 : at_ x [] = [] := rfl
  rw [e0] at b i
  have ei : inB szs [] [] = allC szs := by
    unfold inB
    exact List.filter_eq_self.mpr fun w _ => rfl
  rw [ei] at i
  rw [both_nil hp] at b
  simp [h3, h4, h7, bx_nil, b, i, ne_ob_bx, ne_lN]
theorem no_ok {e : E} {call : CallF} (h : eval tab call e ρ M = .ok (.d (.bl false)) M) : exec tab call (no e) ρ M = .ok .nx ρ M := by
  rw [x_ifs, h]
  simp
theorem asg_ok {e : E} {call : CallF} {i : Nat} {v : D} {M' : Mem} (h : eval tab call e ρ M = .ok (.d v) M') : exec tab call (.asg (.v i) e) ρ M = .ok .nx (ρ.set i (some (.d v))) M' := by
  rw [x_asg, h]
  simp
theorem asgo_ok {e : E} {call : CallF} {i : Nat} {v : D} {M' : Mem} (h : eval tab call e ρ M = .ok (.o v) M') : exec tab call (.asg (.v i) e) ρ M = .ok .nx (ρ.set i (some (.d v))) M' := by
  rw [x_asg, h]
  simp
theorem nx_of {s : S} {ss : List S} {call : CallF} {ρ' : Env} {M' : Mem} {r : RS} (h : exec tab call s ρ M = .ok .nx ρ' M') (k : execs tab call ss ρ' M' = r) : execs tab call (s :: ss) ρ M = r := by
  rw [xs_cons, h, RS.nx_nx, k]
/-- a step within a turn -/
theorem inner {szs : List Nat} (hs : szs ∈ SZ) (h : HI M) {a0 a2 a5 a6 a7 a8 a9 a10 a11 a12 a13 : Option Val} :
    ∃ b7 b8 b9 b10 b11 b12 M', execs tab (callF tab (n + 6)) IB [a0, some (.r 0), a2, some (.d (tN szs)), some (.d (lN (allC szs))), a5, a6, a7, a8, a9, a10, a11, a12, a13] M =
      .ok .nx [a0, some (.r 0), a2, some (.d (tN szs)), some (.d (lN (allC szs))), a5, a6, b7, b8, b9, b10, b11, b12, a13] M' ∧ HI M' := by
  obtain ⟨p, x, M1, hp, hx, r1, g1⟩ := boxE (n := n) (ρ := [a0, some (.r 0), a2, some (.d (tN szs)), some (.d (lN (allC szs))), a5, a6, a7, a8, a9, a10, a11, a12, a13]) hs rfl rfl rfl h
  obtain ⟨q, y, M2, hq, hy, r2, g2⟩ := boxE (n := n) (ρ := [a0, some (.r 0), a2, some (.d (tN szs)), some (.d (lN (allC szs))), a5, a6, some (.d (bx p (at_ x p))), a8, a9, a10, a11, a12, a13]) hs rfl rfl rfl g1
  obtain ⟨z, M3, hz, r3, g3⟩ := someE (n := n) (ρ := [a0, some (.r 0), a2, some (.d (tN szs)), some (.d (lN (allC szs))), a5, a6, some (.d (bx p (at_ x p))), some (.d (bx q (at_ y q))), a9, a10, a11, a12, a13]) hs rfl rfl g2
  obtain ⟨l1, l2, l3⟩ := sz_len szs hs
  have lq := hq.len
  refine ⟨some (.d (bx p (at_ x p))), some (.d (bx q (at_ y q))), some (.d (tN z)), some (.d (lN (inB szs p (at_ x p)))), some (.d (ob (bothR p x q y))), some (.d (lN (common szs p x q y))), M3, ?_, g3⟩
  refine nx_of (asg_ok r1) (nx_of (asg_ok r2) (nx_of (asg_ok r3) (nx_of (no_ok (e4_ok hs hp hx hz rfl rfl rfl)) ?_)))
  refine nx_of (asgo_ok (v := lN (inB szs p (at_ x p))) (M' := M3) (by simp [in_box_ok szs p x hs hx hp])) ?_
  refine nx_of (no_ok (e6_ok hs hp hx (by simp) rfl rfl rfl)) ?_
  refine nx_of (asg_ok (v := ob (bothR p x q y)) (M' := M3) (by simp [both_ok szs p x q y hs hx hp hy hq])) ?_
  refine nx_of (no_ok (e8_ok hs hp hx hq hy rfl rfl rfl rfl)) ?_
  refine nx_of (asgo_ok (v := lN (common szs p x q y)) (M' := M3) (compE (p := q) (ws := at_ y q) (xs := inB szs p (at_ x p)) (by decide) (by simp) rfl rfl (fun w hw c hc => ?_) (by omega) ?_)) ?_
  · have := (List.mem_filter.mp hw).1
    rw [(mem_allC.mp this).1]
    exact hq.2 c hc
  · have := List.length_filter_le (fun w => decide (at_ w p = at_ x p)) (allC szs)
    unfold inB
    omega
  refine nx_of (no_ok (e10_ok hs hp hx hq hy rfl rfl rfl)) ?_
  refine nx_of (no_ok (e11_ok hs hp hx rfl rfl rfl)) ?_
  rw [xs_nil]
  rfl
end K1
end Fm
end

/-! ## part KZZ -/
section
set_option maxHeartbeats 4000000
namespace Fm
open PySem
namespace K1
variable {n : Nat} {M : Mem} {ρ : Env}
theorem inners {szs : List Nat} (hs : szs ∈ SZ) {a0 a2 a5 a13 : Option Val} : ∀ (its : List D) (a6 a7 a8 a9 a10 a11 a12 : Option Val) (M : Mem), HI M →
    ∃ b6 b7 b8 b9 b10 b11 b12 M', forGo (Tg.v 6).bind (fun ρ M => execs tab (callF tab (n + 6)) IB ρ M) its [a0, some (.r 0), a2, some (.d (tN szs)), some (.d (lN (allC szs))), a5, a6, a7, a8, a9, a10, a11, a12, a13] M =
      .ok .nx [a0, some (.r 0), a2, some (.d (tN szs)), some (.d (lN (allC szs))), a5, b6, b7, b8, b9, b10, b11, b12, a13] M' ∧ HI M'
  | [], a6, a7, a8, a9, a10, a11, a12, M, h => ⟨a6, a7, a8, a9, a10, a11, a12, M, rfl, h⟩
  | x :: its, a6, a7, a8, a9, a10, a11, a12, M, h => by
    obtain ⟨b7, b8, b9, b10, b11, b12, M1, e1, h1⟩ := inner (n := n) hs h (a0 := a0) (a2 := a2) (a5 := a5) (a6 := some (.d x)) (a7 := a7) (a8 := a8) (a9 := a9) (a10 := a10) (a11 := a11) (a12 := a12) (a13 := a13)
    obtain ⟨c6, c7, c8, c9, c10, c11, c12, M2, e2, h2⟩ := inners hs its (some (.d x)) b7 b8 b9 b10 b11 b12 M1 h1 (a0 := a0) (a2 := a2) (a5 := a5) (a13 := a13)
    refine ⟨c6, c7, c8, c9, c10, c11, c12, M2, ?_, h2⟩
    rw [forGo, bind_v, Res.of_some, Res.go_ok]
    rw [show ([a0, some (.r 0), a2, some (.d (tN szs)), some (.d (lN (allC szs))), a5, a6, a7, a8, a9, a10, a11, a12, a13] : Env).set 6 (some (.d x)) = [a0, some (.r 0), a2, some (.d (tN szs)), some (.d (lN (allC szs))), a5, some (.d x), a7, a8, a9, a10, a11, a12, a13] from rfl, e1, RS.turn_nx, e2]
theorem clear_ok {call : CallF} {a : List (List Nat)} {i : Nat} (h : ρ[i]? = some (some (.o (lN a)))) : exec tab call (.mu .clear i []) ρ M = .ok .nx (ρ.set i (some (.o (lN [])))) M := by
  rw [x_mu, h]
  show muK .clear i _ ρ (some (some (.o (.lst (a.map tN))))) M = _
  rw [muK_o, ds_nil, Res.go_ok]
  rfl
theorem own_ok {e : E} {call : CallF} {i : Nat} {v : D} {M' : Mem} (h : eval tab call e ρ M = .ok (.o v) M') : exec tab call (.own i e) ρ M = .ok .nx (ρ.set i (some (.o v))) M' := by
  rw [x_own, h]
  simp
theorem for_c {call : CallF} {tg : Tg} {body : List S} (k : Nat) (hk : k ≤ 4096) : exec tab call (.fors tg .range1 [.c (.int (k : Int))] body) ρ M = forGo tg.bind (fun ρ M => execs tab call body ρ M) ((List.range k).map nD) ρ M := by
  simp only [x_fors, ds_cons, ds_nil, ev_c, Res.bind_ok, toD_d, Res.of_some, Res.go_ok, range1_of k hk]
theorem fors_of {call : CallF} {tg : Tg} {body ss : List S} {ρ' : Env} {M' : Mem} {r : RS} {c : Int} (k : Nat) (hk : k ≤ 4096) (hc : (k : Int) = c) (h : forGo tg.bind (fun ρ M => execs tab call body ρ M) ((List.range k).map nD) ρ M = .ok .nx ρ' M') (q : execs tab call ss ρ' M' = r) : execs tab call (.fors tg .range1 [.c (.int c)] body :: ss) ρ M = r := by
  subst hc
  rw [xs_cons, for_c k hk, h, RS.nx_nx, q]
/-- a turn of the law -/
theorem outer (h : HI M) {a0 a2 a3 a4 a5 a6 a7 a8 a9 a10 a11 a12 a13 : Option Val} :
    ∃ b3 b4 b5 b6 b7 b8 b9 b10 b11 b12 M', execs tab (callF tab (n + 6)) OB [a0, some (.r 0), a2, a3, a4, a5, a6, a7, a8, a9, a10, a11, a12, a13] M =
      .ok .nx [a0, some (.r 0), a2, b3, b4, b5, b6, b7, b8, b9, b10, b11, b12, a13] M' ∧ HI M' := by
  obtain ⟨szs, M1, hs, e1, h1⟩ := sizes_ok (n := n + 3) h
  obtain ⟨b6, b7, b8, b9, b10, b11, b12, M2, e2, h2⟩ := inners (n := n) hs ((List.range 5).map nD) a6 a7 a8 a9 a10 a11 a12 M1 h1 (a0 := a0) (a2 := a2) (a5 := some (.o (lN []))) (a13 := a13)
  refine ⟨some (.d (tN szs)), some (.d (lN (allC szs))), some (.o (lN [])), b6, b7, b8, b9, b10, b11, b12, M2, ?_, h2⟩
  refine nx_of (asg_ok (v := tN szs) (M' := M1) (by simp [e1])) ?_
  refine nx_of (asg_ok (v := lN (allC szs)) (M' := M1) (by simp [law_contents_ok szs hs])) ?_
  refine nx_of (own_ok (v := lN (allC szs)) (M' := M1) (by simp [contents_ok szs hs])) ?_
  refine nx_of (no_ok (by simp [ne_lN])) ?_
  refine nx_of (clear_ok (a := allC szs) rfl) ?_
  refine nx_of (no_ok (by simp [contents_ok szs hs, ne_lN])) ?_
  exact fors_of 5 (by decide) rfl e2 xs_nil
theorem outers {a0 a13 : Option Val} : ∀ (its : List D) (a2 a3 a4 a5 a6 a7 a8 a9 a10 a11 a12 : Option Val) (M : Mem), HI M →
    ∃ ρ' M', forGo (Tg.v 2).bind (fun ρ M => execs tab (callF tab (n + 6)) OB ρ M) its [a0, some (.r 0), a2, a3, a4, a5, a6, a7, a8, a9, a10, a11, a12, a13] M = .ok .nx ρ' M'
  | [], a2, a3, a4, a5, a6, a7, a8, a9, a10, a11, a12, M, h => ⟨_, M, rfl⟩
  | x :: its, a2, a3, a4, a5, a6, a7, a8, a9, a10, a11, a12, M, h => by
    obtain ⟨b3, b4, b5, b6, b7, b8, b9, b10, b11, b12, M1, e1, h1⟩ := outer (n := n) h (a0 := a0) (a2 := some (.d x)) (a3 := a3) (a4 := a4) (a5 := a5) (a6 := a6) (a7 := a7) (a8 := a8) (a9 := a9) (a10 := a10) (a11 := a11) (a12 := a12) (a13 := a13)
    obtain ⟨ρ', M2, e2⟩ := outers its (some (.d x)) b3 b4 b5 b6 b7 b8 b9 b10 b11 b12 M1 h1 (a0 := a0) (a13 := a13)
    refine ⟨ρ', M2, ?_⟩
    rw [forGo, bind_v, Res.of_some, Res.go_ok]
    rw [show ([a0, some (.r 0), a2, a3, a4, a5, a6, a7, a8, a9, a10, a11, a12, a13] : Env).set 2 (some (.d x)) = [a0, some (.r 0), some (.d x), a3, a4, a5, a6, a7, a8, a9, a10, a11, a12, a13] from rfl, e1, RS.turn_nx, e2]
theorem plain (ns : List Int) (hl : ns.length ≤ 63) : ∃ M, callF tab (n + 7) f_law [.d (.scr ns)] [] = .ok (.d (.bl true)) M := by
  obtain ⟨M1, e1, h1⟩ := hand_ok (n := n + 5) ns hl
  obtain ⟨ρ', M2, e2⟩ := outers (n := n) ((List.range 3).map nD) none none none none none none none none none none none M1 h1 (a0 := some (.d (.scr ns))) (a13 := none)
  refine ⟨M2, ?_⟩
  rw [run d_law rfl rfl, law_body]
  have e0 : [Val.d (.scr ns)].map some ++ List.replicate (d_law.nn - [Val.d (.scr ns)].length) none = [some (.d (.scr ns)), none, none, none, none, none, none, none, none, none, none, none, none, none] := rfl
  have s1 : exec tab (callF tab (n + 6)) (.asg (.v 1) (.call f__law_hand [.var 0])) [some (.d (.scr ns)), none, none, none, none, none, none, none, none, none, none, none, none, none] [] = .ok .nx [some (.d (.scr ns)), some (.r 0), none, none, none, none, none, none, none, none, none, none, none, none] M1 := by
    rw [x_asg]
    simp [e1]
  have fin : execs tab (callF tab (n + 6)) [.asg (.v 1) (.call f__law_hand [.var 0]), .fors (.v 2) .range1 [.c (.int 3)] OB, .ret (.c (.bl true))] [some (.d (.scr ns)), none, none, none, none, none, none, none, none, none, none, none, none, none] [] = execs tab (callF tab (n + 6)) [.ret (.c (.bl true))] ρ' M2 :=
    nx_of s1 (fors_of (c := 3) 3 (by decide) rfl e2 rfl)
  rw [e0, fin]
  simp
end K1
end Fm
end

/-! ## part head -/
section
set_option maxHeartbeats 4000000
namespace Fm.K1
open PySem PySem.Spec L2
def nmF : Nat → Str
  | 0 => "is_integer"
  | 1 => "is_within"
  | 2 => "is_pair"
  | 3 => "are_ascending"
  | 4 => "are_sizes"
  | 5 => "check_sizes"
  | 6 => "many_contents"
  | 7 => "raw_contents"
  | 8 => "contents"
  | 9 => "is_pattern"
  | 10 => "check_pattern"
  | 11 => "is_content"
  | 12 => "check_content"
  | 13 => "is_raw_box"
  | 14 => "is_box"
  | 15 => "check_box"
  | 16 => "raw_box"
  | 17 => "box_at"
  | 18 => "is_in"
  | 19 => "raw_in_box"
  | 20 => "in_box"
  | 21 => "box_from"
  | 22 => "both"
  | 23 => "_law_hand"
  | 24 => "_law_draw"
  | 25 => "_law_some"
  | 26 => "_law_sizes"
  | 27 => "_law_contents"
  | 28 => "_law_pattern"
  | 29 => "_law_box"
  | 30 => "_law_is_in"
  | 31 => "_law_both"
  | 32 => "law"
  | _ => ""
def nmG : Nat → Str
  | 0 => "MOST_COLUMNS"
  | 1 => "MOST_CONTENTS"
  | _ => ""
def npF : Nat → Option Nat
  | 0 => some 1
  | 1 => some 3
  | 2 => some 1
  | 3 => some 1
  | 4 => some 1
  | 5 => some 1
  | 6 => some 1
  | 7 => some 1
  | 8 => some 1
  | 9 => some 2
  | 10 => some 2
  | 11 => some 2
  | 12 => some 2
  | 13 => some 2
  | 14 => some 2
  | 15 => some 2
  | 16 => some 2
  | 17 => some 3
  | 18 => some 2
  | 19 => some 2
  | 20 => some 2
  | 21 => some 1
  | 22 => some 3
  | 23 => some 1
  | 24 => some 2
  | 25 => some 2
  | 26 => some 1
  | 27 => some 1
  | 28 => some 2
  | 29 => some 2
  | 30 => some 2
  | 31 => some 2
  | 32 => some 1
  | _ => none
def isG : Nat → Bool
  | 0 => true
  | 1 => true
  | _ => false
def ck : Ck := ⟨[], nmF, npF, nmG, isG⟩
def top (i : Nat) : Stmt := PySem.Challenge.pw_fairmasks_k01_whole_contents_and_boxes.main.body.getD i (.Pass ⟨0, 0, 0, 0⟩)
abbrev ns_is_integer : List Str := ["thing"]
theorem sc_is_integer : FnScope ns_is_integer ["thing"] (defScope (top 7)) := C8.fnScope_by (by decide +kernel)
theorem ck_is_integer : chkSs { ck with ns := ns_is_integer } d_is_integer.body ⟨defScope (top 7), none⟩ (defBody (top 7)) = true := by decide +kernel
abbrev ns_is_within : List Str := ["thing", "least", "most"]
theorem sc_is_within : FnScope ns_is_within ["thing", "least", "most"] (defScope (top 8)) := C8.fnScope_by (by decide +kernel)
theorem ck_is_within : chkSs { ck with ns := ns_is_within } d_is_within.body ⟨defScope (top 8), none⟩ (defBody (top 8)) = true := by decide +kernel
abbrev ns_is_pair : List Str := ["thing"]
theorem sc_is_pair : FnScope ns_is_pair ["thing"] (defScope (top 9)) := C8.fnScope_by (by decide +kernel)
theorem ck_is_pair : chkSs { ck with ns := ns_is_pair } d_is_pair.body ⟨defScope (top 9), none⟩ (defBody (top 9)) = true := by decide +kernel
abbrev ns_are_ascending : List Str := ["things", "at"]
theorem sc_are_ascending : FnScope ns_are_ascending ["things"] (defScope (top 10)) := C8.fnScope_by (by decide +kernel)
theorem ck_are_ascending : chkSs { ck with ns := ns_are_ascending } d_are_ascending.body ⟨defScope (top 10), none⟩ (defBody (top 10)) = true := by decide +kernel
abbrev ns_are_sizes : List Str := ["thing", "size"]
theorem sc_are_sizes : FnScope ns_are_sizes ["thing"] (defScope (top 14)) := C8.fnScope_by (by decide +kernel)
theorem ck_are_sizes : chkSs { ck with ns := ns_are_sizes } d_are_sizes.body ⟨defScope (top 14), none⟩ (defBody (top 14)) = true := by decide +kernel
abbrev ns_check_sizes : List Str := ["thing"]
theorem sc_check_sizes : FnScope ns_check_sizes ["thing"] (defScope (top 15)) := C8.fnScope_by (by decide +kernel)
theorem ck_check_sizes : chkSs { ck with ns := ns_check_sizes } d_check_sizes.body ⟨defScope (top 15), none⟩ (defBody (top 15)) = true := by decide +kernel
abbrev ns_many_contents : List Str := ["sizes", "found", "size"]
theorem sc_many_contents : FnScope ns_many_contents ["sizes"] (defScope (top 16)) := C8.fnScope_by (by decide +kernel)
theorem ck_many_contents : chkSs { ck with ns := ns_many_contents } d_many_contents.body ⟨defScope (top 16), none⟩ (defBody (top 16)) = true := by decide +kernel
abbrev ns_raw_contents : List Str := ["sizes", "found", "size", "content", "worth"]
theorem sc_raw_contents : FnScope ns_raw_contents ["sizes"] (defScope (top 17)) := C8.fnScope_by (by decide +kernel)
theorem ck_raw_contents : chkSs { ck with ns := ns_raw_contents } d_raw_contents.body ⟨defScope (top 17), none⟩ (defBody (top 17)) = true := by decide +kernel
abbrev ns_contents : List Str := ["sizes"]
theorem sc_contents : FnScope ns_contents ["sizes"] (defScope (top 18)) := C8.fnScope_by (by decide +kernel)
theorem ck_contents : chkSs { ck with ns := ns_contents } d_contents.body ⟨defScope (top 18), none⟩ (defBody (top 18)) = true := by decide +kernel
abbrev ns_is_pattern : List Str := ["columns", "thing", "c"]
theorem sc_is_pattern : FnScope ns_is_pattern ["columns", "thing"] (defScope (top 19)) := C8.fnScope_by (by decide +kernel)
theorem ck_is_pattern : chkSs { ck with ns := ns_is_pattern } d_is_pattern.body ⟨defScope (top 19), none⟩ (defBody (top 19)) = true := by decide +kernel
abbrev ns_check_pattern : List Str := ["columns", "thing"]
theorem sc_check_pattern : FnScope ns_check_pattern ["columns", "thing"] (defScope (top 20)) := C8.fnScope_by (by decide +kernel)
theorem ck_check_pattern : chkSs { ck with ns := ns_check_pattern } d_check_pattern.body ⟨defScope (top 20), none⟩ (defBody (top 20)) = true := by decide +kernel
abbrev ns_is_content : List Str := ["sizes", "thing", "worth", "size"]
theorem sc_is_content : FnScope ns_is_content ["sizes", "thing"] (defScope (top 21)) := C8.fnScope_by (by decide +kernel)
theorem ck_is_content : chkSs { ck with ns := ns_is_content } d_is_content.body ⟨defScope (top 21), none⟩ (defBody (top 21)) = true := by decide +kernel
abbrev ns_check_content : List Str := ["sizes", "thing"]
theorem sc_check_content : FnScope ns_check_content ["sizes", "thing"] (defScope (top 22)) := C8.fnScope_by (by decide +kernel)
theorem ck_check_content : chkSs { ck with ns := ns_check_content } d_check_content.body ⟨defScope (top 22), none⟩ (defBody (top 22)) = true := by decide +kernel
abbrev ns_is_raw_box : List Str := ["sizes", "thing", "pattern", "worths", "at", "c"]
theorem sc_is_raw_box : FnScope ns_is_raw_box ["sizes", "thing"] (defScope (top 23)) := C8.fnScope_by (by decide +kernel)
theorem ck_is_raw_box : chkSs { ck with ns := ns_is_raw_box } d_is_raw_box.body ⟨defScope (top 23), none⟩ (defBody (top 23)) = true := by decide +kernel
abbrev ns_is_box : List Str := ["sizes", "thing"]
theorem sc_is_box : FnScope ns_is_box ["sizes", "thing"] (defScope (top 24)) := C8.fnScope_by (by decide +kernel)
theorem ck_is_box : chkSs { ck with ns := ns_is_box } d_is_box.body ⟨defScope (top 24), none⟩ (defBody (top 24)) = true := by decide +kernel
abbrev ns_check_box : List Str := ["sizes", "thing"]
theorem sc_check_box : FnScope ns_check_box ["sizes", "thing"] (defScope (top 25)) := C8.fnScope_by (by decide +kernel)
theorem ck_check_box : chkSs { ck with ns := ns_check_box } d_check_box.body ⟨defScope (top 25), none⟩ (defBody (top 25)) = true := by decide +kernel
abbrev ns_raw_box : List Str := ["pattern", "content", "c"]
theorem sc_raw_box : FnScope ns_raw_box ["pattern", "content"] (defScope (top 26)) := C8.fnScope_by (by decide +kernel)
theorem ck_raw_box : chkSs { ck with ns := ns_raw_box } d_raw_box.body ⟨defScope (top 26), none⟩ (defBody (top 26)) = true := by decide +kernel
abbrev ns_box_at : List Str := ["sizes", "pattern", "content"]
theorem sc_box_at : FnScope ns_box_at ["sizes", "pattern", "content"] (defScope (top 27)) := C8.fnScope_by (by decide +kernel)
theorem ck_box_at : chkSs { ck with ns := ns_box_at } d_box_at.body ⟨defScope (top 27), none⟩ (defBody (top 27)) = true := by decide +kernel
abbrev ns_is_in : List Str := ["box", "content"]
theorem sc_is_in : FnScope ns_is_in ["box", "content"] (defScope (top 28)) := C8.fnScope_by (by decide +kernel)
theorem ck_is_in : chkSs { ck with ns := ns_is_in } d_is_in.body ⟨defScope (top 28), none⟩ (defBody (top 28)) = true := by decide +kernel
abbrev ns_raw_in_box : List Str := ["sizes", "box", "content"]
theorem sc_raw_in_box : FnScope ns_raw_in_box ["sizes", "box"] (defScope (top 29)) := C8.fnScope_by (by decide +kernel)
theorem ck_raw_in_box : chkSs { ck with ns := ns_raw_in_box } d_raw_in_box.body ⟨defScope (top 29), none⟩ (defBody (top 29)) = true := by decide +kernel
abbrev ns_in_box : List Str := ["sizes", "box"]
theorem sc_in_box : FnScope ns_in_box ["sizes", "box"] (defScope (top 30)) := C8.fnScope_by (by decide +kernel)
theorem ck_in_box : chkSs { ck with ns := ns_in_box } d_in_box.body ⟨defScope (top 30), none⟩ (defBody (top 30)) = true := by decide +kernel
abbrev ns_box_from : List Str := ["worths", "pattern", "c"]
theorem sc_box_from : FnScope ns_box_from ["worths"] (defScope (top 31)) := C8.fnScope_by (by decide +kernel)
theorem ck_box_from : chkSs { ck with ns := ns_box_from } d_box_from.body ⟨defScope (top 31), none⟩ (defBody (top 31)) = true := by decide +kernel
abbrev ns_both : List Str := ["sizes", "box", "other", "worths", "c", "worth"]
theorem sc_both : FnScope ns_both ["sizes", "box", "other"] (defScope (top 32)) := C8.fnScope_by (by decide +kernel)
theorem ck_both : chkSs { ck with ns := ns_both } d_both.body ⟨defScope (top 32), none⟩ (defBody (top 32)) = true := by decide +kernel
abbrev ns__law_hand : List Str := ["_law_script", "_law_cells", "_law_cell"]
theorem sc__law_hand : FnScope ns__law_hand ["_law_script"] (defScope (top 34)) := C8.fnScope_by (by decide +kernel)
theorem ck__law_hand : chkSs { ck with ns := ns__law_hand } d__law_hand.body ⟨defScope (top 34), none⟩ (defBody (top 34)) = true := by decide +kernel
abbrev ns__law_draw : List Str := ["_law_hand_here", "_law_many", "_law_cell", "_law_digit", "_law_number"]
theorem sc__law_draw : FnScope ns__law_draw ["_law_hand_here", "_law_many"] (defScope (top 35)) := C8.fnScope_by (by decide +kernel)
theorem ck__law_draw : chkSs { ck with ns := ns__law_draw } d__law_draw.body ⟨defScope (top 35), none⟩ (defBody (top 35)) = true := by decide +kernel
abbrev ns__law_some : List Str := ["_law_hand_here", "_law_things"]
theorem sc__law_some : FnScope ns__law_some ["_law_hand_here", "_law_things"] (defScope (top 36)) := C8.fnScope_by (by decide +kernel)
theorem ck__law_some : chkSs { ck with ns := ns__law_some } d__law_some.body ⟨defScope (top 36), none⟩ (defBody (top 36)) = true := by decide +kernel
abbrev ns__law_sizes : List Str := ["_law_hand_here"]
theorem sc__law_sizes : FnScope ns__law_sizes ["_law_hand_here"] (defScope (top 37)) := C8.fnScope_by (by decide +kernel)
theorem ck__law_sizes : chkSs { ck with ns := ns__law_sizes } d__law_sizes.body ⟨defScope (top 37), none⟩ (defBody (top 37)) = true := by decide +kernel
abbrev ns__law_contents : List Str := ["_law_sizes_here", "_law_found", "_law_size", "_law_longer", "_law_content", "_law_worth"]
theorem sc__law_contents : FnScope ns__law_contents ["_law_sizes_here"] (defScope (top 38)) := C8.fnScope_by (by decide +kernel)
theorem ck__law_contents : chkSs { ck with ns := ns__law_contents } d__law_contents.body ⟨defScope (top 38), none⟩ (defBody (top 38)) = true := by decide +kernel
abbrev ns__law_pattern : List Str := ["_law_hand_here", "_law_columns", "_law_c"]
theorem sc__law_pattern : FnScope ns__law_pattern ["_law_hand_here", "_law_columns"] (defScope (top 39)) := C8.fnScope_by (by decide +kernel)
theorem ck__law_pattern : chkSs { ck with ns := ns__law_pattern } d__law_pattern.body ⟨defScope (top 39), none⟩ (defBody (top 39)) = true := by decide +kernel
abbrev ns__law_box : List Str := ["_law_pattern_here", "_law_content", "_law_c"]
theorem sc__law_box : FnScope ns__law_box ["_law_pattern_here", "_law_content"] (defScope (top 40)) := C8.fnScope_by (by decide +kernel)
theorem ck__law_box : chkSs { ck with ns := ns__law_box } d__law_box.body ⟨defScope (top 40), none⟩ (defBody (top 40)) = true := by decide +kernel
abbrev ns__law_is_in : List Str := ["_law_box_here", "_law_content"]
theorem sc__law_is_in : FnScope ns__law_is_in ["_law_box_here", "_law_content"] (defScope (top 41)) := C8.fnScope_by (by decide +kernel)
theorem ck__law_is_in : chkSs { ck with ns := ns__law_is_in } d__law_is_in.body ⟨defScope (top 41), none⟩ (defBody (top 41)) = true := by decide +kernel
abbrev ns__law_both : List Str := ["_law_box_here", "_law_other", "_law_worths", "_law_c", "_law_worth"]
theorem sc__law_both : FnScope ns__law_both ["_law_box_here", "_law_other"] (defScope (top 42)) := C8.fnScope_by (by decide +kernel)
theorem ck__law_both : chkSs { ck with ns := ns__law_both } d__law_both.body ⟨defScope (top 42), none⟩ (defBody (top 42)) = true := by decide +kernel
abbrev ns_law : List Str := ["_law_script", "_law_hand_here", "_law_turn", "_law_sizes_here", "_law_every", "_law_told", "_law_step", "_law_box_here", "_law_other", "_law_content", "_law_inside", "_law_meet", "_law_common", "_law_one"]
theorem sc_law : FnScope ns_law ["_law_script"] (defScope (top 43)) := C8.fnScope_by (by decide +kernel)
theorem ck_law : chkSs { ck with ns := ns_law } d_law.body ⟨defScope (top 43), none⟩ (defBody (top 43)) = true := by decide +kernel
/-! the head: facts by names -/
def h_is_integer : He.DefD := ⟨("is_integer", none), "is_integer", "is_integer", defArgs (top 7), defBody (top 7), defScope (top 7), [], []⟩
def h_is_within : He.DefD := ⟨("is_within", none), "is_within", "is_within", defArgs (top 8), defBody (top 8), defScope (top 8), [], []⟩
def h_is_pair : He.DefD := ⟨("is_pair", none), "is_pair", "is_pair", defArgs (top 9), defBody (top 9), defScope (top 9), [], []⟩
def h_are_ascending : He.DefD := ⟨("are_ascending", none), "are_ascending", "are_ascending", defArgs (top 10), defBody (top 10), defScope (top 10), [], []⟩
def h_are_sizes : He.DefD := ⟨("are_sizes", none), "are_sizes", "are_sizes", defArgs (top 14), defBody (top 14), defScope (top 14), [], []⟩
def h_check_sizes : He.DefD := ⟨("check_sizes", none), "check_sizes", "check_sizes", defArgs (top 15), defBody (top 15), defScope (top 15), [], []⟩
def h_many_contents : He.DefD := ⟨("many_contents", none), "many_contents", "many_contents", defArgs (top 16), defBody (top 16), defScope (top 16), [], []⟩
def h_raw_contents : He.DefD := ⟨("raw_contents", none), "raw_contents", "raw_contents", defArgs (top 17), defBody (top 17), defScope (top 17), [], []⟩
def h_contents : He.DefD := ⟨("contents", none), "contents", "contents", defArgs (top 18), defBody (top 18), defScope (top 18), [], []⟩
def h_is_pattern : He.DefD := ⟨("is_pattern", none), "is_pattern", "is_pattern", defArgs (top 19), defBody (top 19), defScope (top 19), [], []⟩
def h_check_pattern : He.DefD := ⟨("check_pattern", none), "check_pattern", "check_pattern", defArgs (top 20), defBody (top 20), defScope (top 20), [], []⟩
def h_is_content : He.DefD := ⟨("is_content", none), "is_content", "is_content", defArgs (top 21), defBody (top 21), defScope (top 21), [], []⟩
def h_check_content : He.DefD := ⟨("check_content", none), "check_content", "check_content", defArgs (top 22), defBody (top 22), defScope (top 22), [], []⟩
def h_is_raw_box : He.DefD := ⟨("is_raw_box", none), "is_raw_box", "is_raw_box", defArgs (top 23), defBody (top 23), defScope (top 23), [], []⟩
def h_is_box : He.DefD := ⟨("is_box", none), "is_box", "is_box", defArgs (top 24), defBody (top 24), defScope (top 24), [], []⟩
def h_check_box : He.DefD := ⟨("check_box", none), "check_box", "check_box", defArgs (top 25), defBody (top 25), defScope (top 25), [], []⟩
def h_raw_box : He.DefD := ⟨("raw_box", none), "raw_box", "raw_box", defArgs (top 26), defBody (top 26), defScope (top 26), [], []⟩
def h_box_at : He.DefD := ⟨("box_at", none), "box_at", "box_at", defArgs (top 27), defBody (top 27), defScope (top 27), [], []⟩
def h_is_in : He.DefD := ⟨("is_in", none), "is_in", "is_in", defArgs (top 28), defBody (top 28), defScope (top 28), [], []⟩
def h_raw_in_box : He.DefD := ⟨("raw_in_box", none), "raw_in_box", "raw_in_box", defArgs (top 29), defBody (top 29), defScope (top 29), [], []⟩
def h_in_box : He.DefD := ⟨("in_box", none), "in_box", "in_box", defArgs (top 30), defBody (top 30), defScope (top 30), [], []⟩
def h_box_from : He.DefD := ⟨("box_from", none), "box_from", "box_from", defArgs (top 31), defBody (top 31), defScope (top 31), [], []⟩
def h_both : He.DefD := ⟨("both", none), "both", "both", defArgs (top 32), defBody (top 32), defScope (top 32), [], []⟩
def h__law_hand : He.DefD := ⟨("_law_hand", none), "_law_hand", "_law_hand", defArgs (top 34), defBody (top 34), defScope (top 34), [], []⟩
def h__law_draw : He.DefD := ⟨("_law_draw", none), "_law_draw", "_law_draw", defArgs (top 35), defBody (top 35), defScope (top 35), [], []⟩
def h__law_some : He.DefD := ⟨("_law_some", none), "_law_some", "_law_some", defArgs (top 36), defBody (top 36), defScope (top 36), [], []⟩
def h__law_sizes : He.DefD := ⟨("_law_sizes", none), "_law_sizes", "_law_sizes", defArgs (top 37), defBody (top 37), defScope (top 37), [], []⟩
def h__law_contents : He.DefD := ⟨("_law_contents", none), "_law_contents", "_law_contents", defArgs (top 38), defBody (top 38), defScope (top 38), [], []⟩
def h__law_pattern : He.DefD := ⟨("_law_pattern", none), "_law_pattern", "_law_pattern", defArgs (top 39), defBody (top 39), defScope (top 39), [], []⟩
def h__law_box : He.DefD := ⟨("_law_box", none), "_law_box", "_law_box", defArgs (top 40), defBody (top 40), defScope (top 40), [], []⟩
def h__law_is_in : He.DefD := ⟨("_law_is_in", none), "_law_is_in", "_law_is_in", defArgs (top 41), defBody (top 41), defScope (top 41), [], []⟩
def h__law_both : He.DefD := ⟨("_law_both", none), "_law_both", "_law_both", defArgs (top 42), defBody (top 42), defScope (top 42), [], []⟩
def h_law : He.DefD := ⟨("law", none), "law", "law", defArgs (top 43), defBody (top 43), defScope (top 43), [], []⟩
def fns : List He.DefD := [h_is_integer, h_is_within, h_is_pair, h_are_ascending, h_are_sizes, h_check_sizes, h_many_contents, h_raw_contents, h_contents, h_is_pattern, h_check_pattern, h_is_content, h_check_content, h_is_raw_box, h_is_box, h_check_box, h_raw_box, h_box_at, h_is_in, h_raw_in_box, h_in_box, h_box_from, h_both, h__law_hand, h__law_draw, h__law_some, h__law_sizes, h__law_contents, h__law_pattern, h__law_box, h__law_is_in, h__law_both, h_law]
def fas : List He.Fa := [.glo "is_integer", .glo "is_within", .glo "is_pair", .glo "are_ascending", .glo "are_sizes", .glo "check_sizes", .glo "many_contents", .glo "raw_contents", .glo "contents", .glo "is_pattern", .glo "check_pattern", .glo "is_content", .glo "check_content", .glo "is_raw_box", .glo "is_box", .glo "check_box", .glo "raw_box", .glo "box_at", .glo "is_in", .glo "raw_in_box", .glo "in_box", .glo "box_from", .glo "both", .glo "_law_hand", .glo "_law_draw", .glo "_law_some", .glo "_law_sizes", .glo "_law_contents", .glo "_law_pattern", .glo "_law_box", .glo "_law_is_in", .glo "_law_both", .glo "law"] ++ [.int "MOST_COLUMNS" 5, .int "MOST_CONTENTS" 256] ++ [.free "len", .free "abs", .free "int", .free "sum", .free "all", .free "any", .free "tuple", .free "list", .free "sorted", .free "min", .free "max", .free "dict", .free "isinstance", .free "bool", .free "str", .free "range", .free "enumerate", .free "zip"]
def loose0 : List PySem.Str := ["MaskError", "BadSizes", "NoPattern", "NoContent", "NoBox", "MOST_COLUMNS", "MOST_CONTENTS", "is_integer", "is_within", "is_pair", "are_ascending", "are_sizes", "check_sizes", "many_contents", "raw_contents", "contents", "is_pattern", "check_pattern", "is_content", "check_content", "is_raw_box", "is_box", "check_box", "raw_box", "box_at", "is_in", "raw_in_box", "in_box", "box_from", "both"]
def loose1 : List PySem.Str := ["_law_hand", "_law_draw", "_law_some", "_law_sizes", "_law_contents", "_law_pattern", "_law_box", "_law_is_in", "_law_both"]
def loose : List PySem.Str := loose0 ++ loose1
abbrev R : PySem.W.OpenRow := PySem.W.OpenLaw.row PySem.Challenge.rw_fairmasks_k01_whole_contents_and_boxes
abbrev hk : PySem.W.Hook := He.hookD 4 fas fns
def ob (s : PySem.W.SharedT) : He.AlD := He.obsDG 4 fas fns (HandSHeadRun.getT s)
theorem ob_eq (s : PySem.W.SharedT) : ob s = hk.obs s.abs := He.obsDG_eq (HandSHeadRun.getT_eq s)
theorem topRun (w : World) : HandSHeadRun.RunEq R (PySem.W.view R.prog [43]) hk ob 4000 loose w := by
  intro os
  kernel_rfl
section
variable {P : Program} {w : World} {K : PySem.W.Frag} {h : Heap} {mg : Str → Option Value}
theorem blt_ok (X : K.In h) (G : h.Ns mainGlobals mg) (c : He.SaysD fas fns K) : ∀ x ∈ blts, mg x = none := by
  intro x hx
  have hm : (He.Fa.free x) ∈ fas := by
    have q : blts.all (fun x => fas.any fun f => match f with | .free y => decide (y = x) | _ => false) = true := by decide +kernel
    have q2 := List.all_eq_true.mp q x hx
    obtain ⟨f, hf, e⟩ := List.any_eq_true.mp q2
    cases f <;> first | (cases e; done) | (cases of_decide_eq_true e; exact hf)
  obtain ⟨i, e⟩ := List.getElem?_of_mem hm
  exact He.free_ok X G (c.fact i e)
theorem gls_ok (X : K.In h) (G : h.Ns mainGlobals mg) (c : He.SaysD fas fns K) : ∀ i y, tab.gl i = some y → ∃ v u, mg (ck.gn i) = some u ∧ RelV v u ∧ ∀ G, Rep (N := ⟨fun _ => 0, fun _ => ""⟩) w K G v y := by
  intro i y e
  match i, e with
  | 0, e => cases e; obtain ⟨t, q⟩ := He.int_ok X G (c.fact 33 (f := .int "MOST_COLUMNS" 5) rfl); exact ⟨.int 5, _, q, ⟨t, rfl⟩, fun _ => .int _⟩
  | 1, e => cases e; obtain ⟨t, q⟩ := He.int_ok X G (c.fact 34 (f := .int "MOST_CONTENTS" 256) rfl); exact ⟨.int 256, _, q, ⟨t, rfl⟩, fun _ => .int _⟩
  | _ + 2, e => cases e
theorem glk_ok : ∀ i, ck.gl i = true → (tab.gl i).isSome = true := by
  intro i e
  match i, e with
  | 0, e => rfl
  | 1, e => rfl
  | _ + 2, e => cases e
theorem def_is_integer (X : K.In h) (G : h.Ns mainGlobals mg) (c : He.SaysD fas fns K) : ∃ fa fd st ns ps F, DefOk P K mg tab ck 0 1 fa fd st ns ps F := by
  obtain ⟨fd, q⟩ := c.def_ 0 (d := h_is_integer) rfl
  exact ⟨_, fd, top 7, ns_is_integer, ["thing"], d_is_integer, rfl, q, He.glo_ok X G (c.fact 0 (f := .glo "is_integer") rfl), q.bindsN fun _ _ _ _ _ _ us hl => match us, hl with | [_], _ => rfl, rfl, rfl, rfl, sc_is_integer, ck_is_integer⟩
theorem def_is_within (X : K.In h) (G : h.Ns mainGlobals mg) (c : He.SaysD fas fns K) : ∃ fa fd st ns ps F, DefOk P K mg tab ck 1 3 fa fd st ns ps F := by
  obtain ⟨fd, q⟩ := c.def_ 1 (d := h_is_within) rfl
  exact ⟨_, fd, top 8, ns_is_within, ["thing", "least", "most"], d_is_within, rfl, q, He.glo_ok X G (c.fact 1 (f := .glo "is_within") rfl), q.bindsN fun _ _ _ _ _ _ us hl => match us, hl with | [_, _, _], _ => rfl, rfl, rfl, rfl, sc_is_within, ck_is_within⟩
theorem def_is_pair (X : K.In h) (G : h.Ns mainGlobals mg) (c : He.SaysD fas fns K) : ∃ fa fd st ns ps F, DefOk P K mg tab ck 2 1 fa fd st ns ps F := by
  obtain ⟨fd, q⟩ := c.def_ 2 (d := h_is_pair) rfl
  exact ⟨_, fd, top 9, ns_is_pair, ["thing"], d_is_pair, rfl, q, He.glo_ok X G (c.fact 2 (f := .glo "is_pair") rfl), q.bindsN fun _ _ _ _ _ _ us hl => match us, hl with | [_], _ => rfl, rfl, rfl, rfl, sc_is_pair, ck_is_pair⟩
theorem def_are_ascending (X : K.In h) (G : h.Ns mainGlobals mg) (c : He.SaysD fas fns K) : ∃ fa fd st ns ps F, DefOk P K mg tab ck 3 1 fa fd st ns ps F := by
  obtain ⟨fd, q⟩ := c.def_ 3 (d := h_are_ascending) rfl
  exact ⟨_, fd, top 10, ns_are_ascending, ["things"], d_are_ascending, rfl, q, He.glo_ok X G (c.fact 3 (f := .glo "are_ascending") rfl), q.bindsN fun _ _ _ _ _ _ us hl => match us, hl with | [_], _ => rfl, rfl, rfl, rfl, sc_are_ascending, ck_are_ascending⟩
theorem def_are_sizes (X : K.In h) (G : h.Ns mainGlobals mg) (c : He.SaysD fas fns K) : ∃ fa fd st ns ps F, DefOk P K mg tab ck 4 1 fa fd st ns ps F := by
  obtain ⟨fd, q⟩ := c.def_ 4 (d := h_are_sizes) rfl
  exact ⟨_, fd, top 14, ns_are_sizes, ["thing"], d_are_sizes, rfl, q, He.glo_ok X G (c.fact 4 (f := .glo "are_sizes") rfl), q.bindsN fun _ _ _ _ _ _ us hl => match us, hl with | [_], _ => rfl, rfl, rfl, rfl, sc_are_sizes, ck_are_sizes⟩
theorem def_check_sizes (X : K.In h) (G : h.Ns mainGlobals mg) (c : He.SaysD fas fns K) : ∃ fa fd st ns ps F, DefOk P K mg tab ck 5 1 fa fd st ns ps F := by
  obtain ⟨fd, q⟩ := c.def_ 5 (d := h_check_sizes) rfl
  exact ⟨_, fd, top 15, ns_check_sizes, ["thing"], d_check_sizes, rfl, q, He.glo_ok X G (c.fact 5 (f := .glo "check_sizes") rfl), q.bindsN fun _ _ _ _ _ _ us hl => match us, hl with | [_], _ => rfl, rfl, rfl, rfl, sc_check_sizes, ck_check_sizes⟩
theorem def_many_contents (X : K.In h) (G : h.Ns mainGlobals mg) (c : He.SaysD fas fns K) : ∃ fa fd st ns ps F, DefOk P K mg tab ck 6 1 fa fd st ns ps F := by
  obtain ⟨fd, q⟩ := c.def_ 6 (d := h_many_contents) rfl
  exact ⟨_, fd, top 16, ns_many_contents, ["sizes"], d_many_contents, rfl, q, He.glo_ok X G (c.fact 6 (f := .glo "many_contents") rfl), q.bindsN fun _ _ _ _ _ _ us hl => match us, hl with | [_], _ => rfl, rfl, rfl, rfl, sc_many_contents, ck_many_contents⟩
theorem def_raw_contents (X : K.In h) (G : h.Ns mainGlobals mg) (c : He.SaysD fas fns K) : ∃ fa fd st ns ps F, DefOk P K mg tab ck 7 1 fa fd st ns ps F := by
  obtain ⟨fd, q⟩ := c.def_ 7 (d := h_raw_contents) rfl
  exact ⟨_, fd, top 17, ns_raw_contents, ["sizes"], d_raw_contents, rfl, q, He.glo_ok X G (c.fact 7 (f := .glo "raw_contents") rfl), q.bindsN fun _ _ _ _ _ _ us hl => match us, hl with | [_], _ => rfl, rfl, rfl, rfl, sc_raw_contents, ck_raw_contents⟩
theorem def_contents (X : K.In h) (G : h.Ns mainGlobals mg) (c : He.SaysD fas fns K) : ∃ fa fd st ns ps F, DefOk P K mg tab ck 8 1 fa fd st ns ps F := by
  obtain ⟨fd, q⟩ := c.def_ 8 (d := h_contents) rfl
  exact ⟨_, fd, top 18, ns_contents, ["sizes"], d_contents, rfl, q, He.glo_ok X G (c.fact 8 (f := .glo "contents") rfl), q.bindsN fun _ _ _ _ _ _ us hl => match us, hl with | [_], _ => rfl, rfl, rfl, rfl, sc_contents, ck_contents⟩
theorem def_is_pattern (X : K.In h) (G : h.Ns mainGlobals mg) (c : He.SaysD fas fns K) : ∃ fa fd st ns ps F, DefOk P K mg tab ck 9 2 fa fd st ns ps F := by
  obtain ⟨fd, q⟩ := c.def_ 9 (d := h_is_pattern) rfl
  exact ⟨_, fd, top 19, ns_is_pattern, ["columns", "thing"], d_is_pattern, rfl, q, He.glo_ok X G (c.fact 9 (f := .glo "is_pattern") rfl), q.bindsN fun _ _ _ _ _ _ us hl => match us, hl with | [_, _], _ => rfl, rfl, rfl, rfl, sc_is_pattern, ck_is_pattern⟩
theorem def_check_pattern (X : K.In h) (G : h.Ns mainGlobals mg) (c : He.SaysD fas fns K) : ∃ fa fd st ns ps F, DefOk P K mg tab ck 10 2 fa fd st ns ps F := by
  obtain ⟨fd, q⟩ := c.def_ 10 (d := h_check_pattern) rfl
  exact ⟨_, fd, top 20, ns_check_pattern, ["columns", "thing"], d_check_pattern, rfl, q, He.glo_ok X G (c.fact 10 (f := .glo "check_pattern") rfl), q.bindsN fun _ _ _ _ _ _ us hl => match us, hl with | [_, _], _ => rfl, rfl, rfl, rfl, sc_check_pattern, ck_check_pattern⟩
theorem def_is_content (X : K.In h) (G : h.Ns mainGlobals mg) (c : He.SaysD fas fns K) : ∃ fa fd st ns ps F, DefOk P K mg tab ck 11 2 fa fd st ns ps F := by
  obtain ⟨fd, q⟩ := c.def_ 11 (d := h_is_content) rfl
  exact ⟨_, fd, top 21, ns_is_content, ["sizes", "thing"], d_is_content, rfl, q, He.glo_ok X G (c.fact 11 (f := .glo "is_content") rfl), q.bindsN fun _ _ _ _ _ _ us hl => match us, hl with | [_, _], _ => rfl, rfl, rfl, rfl, sc_is_content, ck_is_content⟩
theorem def_check_content (X : K.In h) (G : h.Ns mainGlobals mg) (c : He.SaysD fas fns K) : ∃ fa fd st ns ps F, DefOk P K mg tab ck 12 2 fa fd st ns ps F := by
  obtain ⟨fd, q⟩ := c.def_ 12 (d := h_check_content) rfl
  exact ⟨_, fd, top 22, ns_check_content, ["sizes", "thing"], d_check_content, rfl, q, He.glo_ok X G (c.fact 12 (f := .glo "check_content") rfl), q.bindsN fun _ _ _ _ _ _ us hl => match us, hl with | [_, _], _ => rfl, rfl, rfl, rfl, sc_check_content, ck_check_content⟩
theorem def_is_raw_box (X : K.In h) (G : h.Ns mainGlobals mg) (c : He.SaysD fas fns K) : ∃ fa fd st ns ps F, DefOk P K mg tab ck 13 2 fa fd st ns ps F := by
  obtain ⟨fd, q⟩ := c.def_ 13 (d := h_is_raw_box) rfl
  exact ⟨_, fd, top 23, ns_is_raw_box, ["sizes", "thing"], d_is_raw_box, rfl, q, He.glo_ok X G (c.fact 13 (f := .glo "is_raw_box") rfl), q.bindsN fun _ _ _ _ _ _ us hl => match us, hl with | [_, _], _ => rfl, rfl, rfl, rfl, sc_is_raw_box, ck_is_raw_box⟩
theorem def_is_box (X : K.In h) (G : h.Ns mainGlobals mg) (c : He.SaysD fas fns K) : ∃ fa fd st ns ps F, DefOk P K mg tab ck 14 2 fa fd st ns ps F := by
  obtain ⟨fd, q⟩ := c.def_ 14 (d := h_is_box) rfl
  exact ⟨_, fd, top 24, ns_is_box, ["sizes", "thing"], d_is_box, rfl, q, He.glo_ok X G (c.fact 14 (f := .glo "is_box") rfl), q.bindsN fun _ _ _ _ _ _ us hl => match us, hl with | [_, _], _ => rfl, rfl, rfl, rfl, sc_is_box, ck_is_box⟩
theorem def_check_box (X : K.In h) (G : h.Ns mainGlobals mg) (c : He.SaysD fas fns K) : ∃ fa fd st ns ps F, DefOk P K mg tab ck 15 2 fa fd st ns ps F := by
  obtain ⟨fd, q⟩ := c.def_ 15 (d := h_check_box) rfl
  exact ⟨_, fd, top 25, ns_check_box, ["sizes", "thing"], d_check_box, rfl, q, He.glo_ok X G (c.fact 15 (f := .glo "check_box") rfl), q.bindsN fun _ _ _ _ _ _ us hl => match us, hl with | [_, _], _ => rfl, rfl, rfl, rfl, sc_check_box, ck_check_box⟩
theorem def_raw_box (X : K.In h) (G : h.Ns mainGlobals mg) (c : He.SaysD fas fns K) : ∃ fa fd st ns ps F, DefOk P K mg tab ck 16 2 fa fd st ns ps F := by
  obtain ⟨fd, q⟩ := c.def_ 16 (d := h_raw_box) rfl
  exact ⟨_, fd, top 26, ns_raw_box, ["pattern", "content"], d_raw_box, rfl, q, He.glo_ok X G (c.fact 16 (f := .glo "raw_box") rfl), q.bindsN fun _ _ _ _ _ _ us hl => match us, hl with | [_, _], _ => rfl, rfl, rfl, rfl, sc_raw_box, ck_raw_box⟩
theorem def_box_at (X : K.In h) (G : h.Ns mainGlobals mg) (c : He.SaysD fas fns K) : ∃ fa fd st ns ps F, DefOk P K mg tab ck 17 3 fa fd st ns ps F := by
  obtain ⟨fd, q⟩ := c.def_ 17 (d := h_box_at) rfl
  exact ⟨_, fd, top 27, ns_box_at, ["sizes", "pattern", "content"], d_box_at, rfl, q, He.glo_ok X G (c.fact 17 (f := .glo "box_at") rfl), q.bindsN fun _ _ _ _ _ _ us hl => match us, hl with | [_, _, _], _ => rfl, rfl, rfl, rfl, sc_box_at, ck_box_at⟩
theorem def_is_in (X : K.In h) (G : h.Ns mainGlobals mg) (c : He.SaysD fas fns K) : ∃ fa fd st ns ps F, DefOk P K mg tab ck 18 2 fa fd st ns ps F := by
  obtain ⟨fd, q⟩ := c.def_ 18 (d := h_is_in) rfl
  exact ⟨_, fd, top 28, ns_is_in, ["box", "content"], d_is_in, rfl, q, He.glo_ok X G (c.fact 18 (f := .glo "is_in") rfl), q.bindsN fun _ _ _ _ _ _ us hl => match us, hl with | [_, _], _ => rfl, rfl, rfl, rfl, sc_is_in, ck_is_in⟩
theorem def_raw_in_box (X : K.In h) (G : h.Ns mainGlobals mg) (c : He.SaysD fas fns K) : ∃ fa fd st ns ps F, DefOk P K mg tab ck 19 2 fa fd st ns ps F := by
  obtain ⟨fd, q⟩ := c.def_ 19 (d := h_raw_in_box) rfl
  exact ⟨_, fd, top 29, ns_raw_in_box, ["sizes", "box"], d_raw_in_box, rfl, q, He.glo_ok X G (c.fact 19 (f := .glo "raw_in_box") rfl), q.bindsN fun _ _ _ _ _ _ us hl => match us, hl with | [_, _], _ => rfl, rfl, rfl, rfl, sc_raw_in_box, ck_raw_in_box⟩
theorem def_in_box (X : K.In h) (G : h.Ns mainGlobals mg) (c : He.SaysD fas fns K) : ∃ fa fd st ns ps F, DefOk P K mg tab ck 20 2 fa fd st ns ps F := by
  obtain ⟨fd, q⟩ := c.def_ 20 (d := h_in_box) rfl
  exact ⟨_, fd, top 30, ns_in_box, ["sizes", "box"], d_in_box, rfl, q, He.glo_ok X G (c.fact 20 (f := .glo "in_box") rfl), q.bindsN fun _ _ _ _ _ _ us hl => match us, hl with | [_, _], _ => rfl, rfl, rfl, rfl, sc_in_box, ck_in_box⟩
theorem def_box_from (X : K.In h) (G : h.Ns mainGlobals mg) (c : He.SaysD fas fns K) : ∃ fa fd st ns ps F, DefOk P K mg tab ck 21 1 fa fd st ns ps F := by
  obtain ⟨fd, q⟩ := c.def_ 21 (d := h_box_from) rfl
  exact ⟨_, fd, top 31, ns_box_from, ["worths"], d_box_from, rfl, q, He.glo_ok X G (c.fact 21 (f := .glo "box_from") rfl), q.bindsN fun _ _ _ _ _ _ us hl => match us, hl with | [_], _ => rfl, rfl, rfl, rfl, sc_box_from, ck_box_from⟩
theorem def_both (X : K.In h) (G : h.Ns mainGlobals mg) (c : He.SaysD fas fns K) : ∃ fa fd st ns ps F, DefOk P K mg tab ck 22 3 fa fd st ns ps F := by
  obtain ⟨fd, q⟩ := c.def_ 22 (d := h_both) rfl
  exact ⟨_, fd, top 32, ns_both, ["sizes", "box", "other"], d_both, rfl, q, He.glo_ok X G (c.fact 22 (f := .glo "both") rfl), q.bindsN fun _ _ _ _ _ _ us hl => match us, hl with | [_, _, _], _ => rfl, rfl, rfl, rfl, sc_both, ck_both⟩
theorem def__law_hand (X : K.In h) (G : h.Ns mainGlobals mg) (c : He.SaysD fas fns K) : ∃ fa fd st ns ps F, DefOk P K mg tab ck 23 1 fa fd st ns ps F := by
  obtain ⟨fd, q⟩ := c.def_ 23 (d := h__law_hand) rfl
  exact ⟨_, fd, top 34, ns__law_hand, ["_law_script"], d__law_hand, rfl, q, He.glo_ok X G (c.fact 23 (f := .glo "_law_hand") rfl), q.bindsN fun _ _ _ _ _ _ us hl => match us, hl with | [_], _ => rfl, rfl, rfl, rfl, sc__law_hand, ck__law_hand⟩
theorem def__law_draw (X : K.In h) (G : h.Ns mainGlobals mg) (c : He.SaysD fas fns K) : ∃ fa fd st ns ps F, DefOk P K mg tab ck 24 2 fa fd st ns ps F := by
  obtain ⟨fd, q⟩ := c.def_ 24 (d := h__law_draw) rfl
  exact ⟨_, fd, top 35, ns__law_draw, ["_law_hand_here", "_law_many"], d__law_draw, rfl, q, He.glo_ok X G (c.fact 24 (f := .glo "_law_draw") rfl), q.bindsN fun _ _ _ _ _ _ us hl => match us, hl with | [_, _], _ => rfl, rfl, rfl, rfl, sc__law_draw, ck__law_draw⟩
theorem def__law_some (X : K.In h) (G : h.Ns mainGlobals mg) (c : He.SaysD fas fns K) : ∃ fa fd st ns ps F, DefOk P K mg tab ck 25 2 fa fd st ns ps F := by
  obtain ⟨fd, q⟩ := c.def_ 25 (d := h__law_some) rfl
  exact ⟨_, fd, top 36, ns__law_some, ["_law_hand_here", "_law_things"], d__law_some, rfl, q, He.glo_ok X G (c.fact 25 (f := .glo "_law_some") rfl), q.bindsN fun _ _ _ _ _ _ us hl => match us, hl with | [_, _], _ => rfl, rfl, rfl, rfl, sc__law_some, ck__law_some⟩
theorem def__law_sizes (X : K.In h) (G : h.Ns mainGlobals mg) (c : He.SaysD fas fns K) : ∃ fa fd st ns ps F, DefOk P K mg tab ck 26 1 fa fd st ns ps F := by
  obtain ⟨fd, q⟩ := c.def_ 26 (d := h__law_sizes) rfl
  exact ⟨_, fd, top 37, ns__law_sizes, ["_law_hand_here"], d__law_sizes, rfl, q, He.glo_ok X G (c.fact 26 (f := .glo "_law_sizes") rfl), q.bindsN fun _ _ _ _ _ _ us hl => match us, hl with | [_], _ => rfl, rfl, rfl, rfl, sc__law_sizes, ck__law_sizes⟩
theorem def__law_contents (X : K.In h) (G : h.Ns mainGlobals mg) (c : He.SaysD fas fns K) : ∃ fa fd st ns ps F, DefOk P K mg tab ck 27 1 fa fd st ns ps F := by
  obtain ⟨fd, q⟩ := c.def_ 27 (d := h__law_contents) rfl
  exact ⟨_, fd, top 38, ns__law_contents, ["_law_sizes_here"], d__law_contents, rfl, q, He.glo_ok X G (c.fact 27 (f := .glo "_law_contents") rfl), q.bindsN fun _ _ _ _ _ _ us hl => match us, hl with | [_], _ => rfl, rfl, rfl, rfl, sc__law_contents, ck__law_contents⟩
theorem def__law_pattern (X : K.In h) (G : h.Ns mainGlobals mg) (c : He.SaysD fas fns K) : ∃ fa fd st ns ps F, DefOk P K mg tab ck 28 2 fa fd st ns ps F := by
  obtain ⟨fd, q⟩ := c.def_ 28 (d := h__law_pattern) rfl
  exact ⟨_, fd, top 39, ns__law_pattern, ["_law_hand_here", "_law_columns"], d__law_pattern, rfl, q, He.glo_ok X G (c.fact 28 (f := .glo "_law_pattern") rfl), q.bindsN fun _ _ _ _ _ _ us hl => match us, hl with | [_, _], _ => rfl, rfl, rfl, rfl, sc__law_pattern, ck__law_pattern⟩
theorem def__law_box (X : K.In h) (G : h.Ns mainGlobals mg) (c : He.SaysD fas fns K) : ∃ fa fd st ns ps F, DefOk P K mg tab ck 29 2 fa fd st ns ps F := by
  obtain ⟨fd, q⟩ := c.def_ 29 (d := h__law_box) rfl
  exact ⟨_, fd, top 40, ns__law_box, ["_law_pattern_here", "_law_content"], d__law_box, rfl, q, He.glo_ok X G (c.fact 29 (f := .glo "_law_box") rfl), q.bindsN fun _ _ _ _ _ _ us hl => match us, hl with | [_, _], _ => rfl, rfl, rfl, rfl, sc__law_box, ck__law_box⟩
theorem def__law_is_in (X : K.In h) (G : h.Ns mainGlobals mg) (c : He.SaysD fas fns K) : ∃ fa fd st ns ps F, DefOk P K mg tab ck 30 2 fa fd st ns ps F := by
  obtain ⟨fd, q⟩ := c.def_ 30 (d := h__law_is_in) rfl
  exact ⟨_, fd, top 41, ns__law_is_in, ["_law_box_here", "_law_content"], d__law_is_in, rfl, q, He.glo_ok X G (c.fact 30 (f := .glo "_law_is_in") rfl), q.bindsN fun _ _ _ _ _ _ us hl => match us, hl with | [_, _], _ => rfl, rfl, rfl, rfl, sc__law_is_in, ck__law_is_in⟩
theorem def__law_both (X : K.In h) (G : h.Ns mainGlobals mg) (c : He.SaysD fas fns K) : ∃ fa fd st ns ps F, DefOk P K mg tab ck 31 2 fa fd st ns ps F := by
  obtain ⟨fd, q⟩ := c.def_ 31 (d := h__law_both) rfl
  exact ⟨_, fd, top 42, ns__law_both, ["_law_box_here", "_law_other"], d__law_both, rfl, q, He.glo_ok X G (c.fact 31 (f := .glo "_law_both") rfl), q.bindsN fun _ _ _ _ _ _ us hl => match us, hl with | [_, _], _ => rfl, rfl, rfl, rfl, sc__law_both, ck__law_both⟩
theorem def_law (X : K.In h) (G : h.Ns mainGlobals mg) (c : He.SaysD fas fns K) : ∃ fa fd st ns ps F, DefOk P K mg tab ck 32 1 fa fd st ns ps F := by
  obtain ⟨fd, q⟩ := c.def_ 32 (d := h_law) rfl
  exact ⟨_, fd, top 43, ns_law, ["_law_script"], d_law, rfl, q, He.glo_ok X G (c.fact 32 (f := .glo "law") rfl), q.bindsN fun _ _ _ _ _ _ us hl => match us, hl with | [_], _ => rfl, rfl, rfl, rfl, sc_law, ck_law⟩
theorem defs_ok (X : K.In h) (G : h.Ns mainGlobals mg) (c : He.SaysD fas fns K) : ∀ f n, ck.np f = some n → ∃ fa fd st ns ps F, DefOk P K mg tab ck f n fa fd st ns ps F := by
  intro f n e
  match f, e with
  | 0, e => cases e; exact def_is_integer X G c
  | 1, e => cases e; exact def_is_within X G c
  | 2, e => cases e; exact def_is_pair X G c
  | 3, e => cases e; exact def_are_ascending X G c
  | 4, e => cases e; exact def_are_sizes X G c
  | 5, e => cases e; exact def_check_sizes X G c
  | 6, e => cases e; exact def_many_contents X G c
  | 7, e => cases e; exact def_raw_contents X G c
  | 8, e => cases e; exact def_contents X G c
  | 9, e => cases e; exact def_is_pattern X G c
  | 10, e => cases e; exact def_check_pattern X G c
  | 11, e => cases e; exact def_is_content X G c
  | 12, e => cases e; exact def_check_content X G c
  | 13, e => cases e; exact def_is_raw_box X G c
  | 14, e => cases e; exact def_is_box X G c
  | 15, e => cases e; exact def_check_box X G c
  | 16, e => cases e; exact def_raw_box X G c
  | 17, e => cases e; exact def_box_at X G c
  | 18, e => cases e; exact def_is_in X G c
  | 19, e => cases e; exact def_raw_in_box X G c
  | 20, e => cases e; exact def_in_box X G c
  | 21, e => cases e; exact def_box_from X G c
  | 22, e => cases e; exact def_both X G c
  | 23, e => cases e; exact def__law_hand X G c
  | 24, e => cases e; exact def__law_draw X G c
  | 25, e => cases e; exact def__law_some X G c
  | 26, e => cases e; exact def__law_sizes X G c
  | 27, e => cases e; exact def__law_contents X G c
  | 28, e => cases e; exact def__law_pattern X G c
  | 29, e => cases e; exact def__law_box X G c
  | 30, e => cases e; exact def__law_is_in X G c
  | 31, e => cases e; exact def__law_both X G c
  | 32, e => cases e; exact def_law X G c
  | _ + 33, e => cases e
end
end Fm.K1
open PySem PySem.W PySem.Calls PyProof.Rows
theorem Fm.K1.holds_of (k : Nat) (hr : L2.Room (k + 1) callerA) (plain : ∀ ns : List Int, ns.length ≤ 63 → ∃ M, Fm.callF Fm.K1.tab (k + 1) Fm.K1.f_law [.d (.scr ns)] [] = .ok (.d (.bl true)) M) : PySem.Challenge.rw_fairmasks_k01_whole_contents_and_boxes.Holds := by
  w_on; o_law
  refine HandSHeadRun.head_any (r := OpenLaw.row PySem.Challenge.rw_fairmasks_k01_whole_contents_and_boxes) (q := view (OpenLaw.row PySem.Challenge.rw_fairmasks_k01_whole_contents_and_boxes).prog [43]) (H := Fm.K1.hk) (ob := Fm.K1.ob) (M := 4000) (loose := Fm.K1.loose) (d := HandSHeadRun.topDef (OpenLaw.row PySem.Challenge.rw_fairmasks_k01_whole_contents_and_boxes).prog 43) (kwd := []) Fm.K1.ob_eq
    (by kernel_rfl) (fun s => by kernel_rfl) Fm.K1.topRun (by kernel_rfl) (by kernel_rfl) (by kernel_rfl) (by rfl) (by first | assumption | decide +kernel) (by decide +kernel) ⟨rfl, rfl, rfl, rfl, rfl, by decide +kernel⟩ ?hw ?hc
  case hw => w_witness2
  case hc =>
    refine Fm.walk_law (l := PySem.Challenge.rw_fairmasks_k01_whole_contents_and_boxes) (n := 63) (k := k) (x := "_law_script") rfl (by decide) (by kernel_rfl) hr ?F
    intro w mg fa h Y G hmg0
    obtain ⟨K, KX, c⟩ := Y
    have hmg : mg ("law" : PySem.Str) = some (.ref fa) := by
      have e : (HandSHeadRun.topDef (OpenLaw.row PySem.Challenge.rw_fairmasks_k01_whole_contents_and_boxes).prog 43).name = ("law" : PySem.Str) := by kernel_rfl
      rw [← e]
      exact hmg0
    obtain ⟨fd, qd⟩ := c.def_ 32 (d := Fm.K1.h_law) rfl
    have gl := He.glo_ok KX G (c.fact 32 (f := .glo "law") rfl)
    have e := hmg.symm.trans gl
    cases e
    exact ⟨K, ⟨fun _ => 0, fun _ => ""⟩, Fm.K1.tab, Fm.K1.ck, Fm.K1.f_law, fd, Fm.K1.top 43, Fm.K1.ns_law, Fm.K1.d_law, KX, Fm.K1.blt_ok KX G c, Fm.K1.gls_ok KX G c, Fm.K1.glk_ok, Fm.K1.defs_ok KX G c,
      ⟨rfl, qd, gl, qd.bindsN fun _ _ _ _ _ _ us hl => match us, hl with | [_], _ => rfl, rfl, rfl, rfl, Fm.K1.sc_law, Fm.K1.ck_law⟩, fun s u => L2.FunD.bindsA (ps := ["_law_script"]) qd (fun _ _ _ _ _ _ us hl => match us, hl with | [_], _ => rfl) s [u] rfl, plain⟩
end

theorem PySem.Challenge.cw_fairmasks_k01_whole_contents_and_boxes_holds : PySem.Challenge.rw_fairmasks_k01_whole_contents_and_boxes.Holds := by
  exact Fm.K1.holds_of 6 (by exact ⟨rfl, by decide +kernel, by decide +kernel⟩) (fun ns h => Fm.K1.plain (n := 0) ns h)
