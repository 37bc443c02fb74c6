import PyProof.Rows.All
import Wide.All
import OpenK.AllK
import Wide.FinOn
import HandS.ForMost
import HandS.ForExc
import HandS.ExcCtx
import HandS.CallSlots
import HandS.Flow
import HandS.Wide
import HandS.IsInst
import HandS.Walk
import HandS.Style
import HandS.Defaults
import HandS.SuiteRaise
import HandS.HeadHook1
import KE.KStateDown
import HandS.Head0
import HandS.Head1
import HandS.Head2
import HandS.HeadEnd
import HandS.HeadHook2
import HandS.StrMore
import KE.KRevSl
import KE.DataCmp
import KE.SortData
import HandS.OwnEq
import PyProof.InstNe
import HandS.MakeKw
import KE.KFmtOwn
import HandS.FStr
import HandS.CallLocal
import HandS.Text
import HandS.Replace
import HandS.RaiseMore
import HandS.Conv
import HandS.ReplaceLit
import PyProof.ToksMono
import HandS.HotCalls
import HandS.ExcIs
import KE.KExcIs
import HandS.FStrTup
import HandS.TupAny
import HandS.ExcInit
import HandS.Zip
import HandS.ExcField
import KE.GoesEnumKw
import PyProof.ReprHeads
import HandS.SetFor
import HandS.SortInts
import PyProof.TupleKey
import PyProof.DictMoreH
import KE.KDictCopyH
import KE.KDictWalk
import KE.KItemsList
import HandS.DictTup
import HandS.ListItems
import HandS.Iter
import KE.SortKeyHeap
import HandS.SortKw
import PySem.Challenge.RW_cellblocks_k12_cells_of_areas
set_option Elab.async false
set_option linter.all false
set_option maxRecDepth 100000
/-! A small interpreter's data: what a Python value is worth (D), the cells that may change (M), and how both lie in the layer's heap. -/
namespace DL
open PySem PySem.Spec PyProof.Rows L2
/-- a datum: what never changes is a tree; mut i is the cell number i -/
inductive D where
  | non | bl (b : Bool) | int (i : Int) | str (s : Str) | ty (n : String) | glo (x : Str)
  | tup (l : List D) | lst (l : List D) | dct (ks : List Key) (l : List D) | obj (c : Str) (ns : List Str) (l : List D)
  | cel (i : Nat) | scr (ns : List Int) | exc (c : Str) (ns : List Str) (l : List D)
  /-- some text: which one is not known -/
  | txt
/-- the keys of a locked dict -/
inductive LK where
  | k (ks : List Key) | t (ks : List (List (Option Int)))
/-- a cell that may change -/
inductive M where
  | lst (l : List D) | dct (ks : List Key) (l : List D) | obj (c : Str) (ns : List Str) (l : List D) | dead
  /-- a dict whose keys are tuples of numbers and None -/
  | dcT (ks : List (List (Option Int))) (l : List D)
  /-- a dict that is locked while it is walked -/
  | lck (ks : LK) (l : List D)
structure Sx where
  K : PySem.W.Frag
  A : Str → Addr
  n0 : Nat
  pn : List (Addr × Obj)
  cls : List Str
/-! ### how a datum lies in the heap -/
def okS (x : Str) : Bool := x.cps.all (· < 0x110000)
mutual
def rep (S : Sx) (io : List Addr) (F : Hp) : D → V → Prop
  | .non, v => v = .non
  | .bl b, v => v = .bl b
  | .int i, v => v = .int i
  | .str s, v => v = .str s ∧ okS s = true
  | .ty n, v => v = .ty n
  | .glo x, v => v = .ref (S.A x)
  | .tup l, v => ∃ a xs, v = .ref a ∧ SqT S.K F a xs ∧ reps S io F l xs
  | .lst l, v => ∃ a xs, v = .ref a ∧ F a = some (.lst xs) ∧ reps S io F l xs
  | .scr ns, v => ∃ a, v = .ref a ∧ SqL S.K F a (ns.map V.int)
  | .dct ks l, v => ∃ a kvs, v = .ref a ∧ F a = some (.dK kvs) ∧ kvs.map (·.1) = ks ∧ reps S io F l (kvs.map (·.2))
  | .obj c ns l, v => ∃ a dx fs, v = .ref a ∧ F a = some (.ins (S.A c) dx fs) ∧ fs.map (·.1) = ns ∧ reps S io F l (fs.map (·.2)) ∧ c ∈ S.cls
  | .cel i, v => ∃ a, v = .ref a ∧ io[i]? = some a
  | .exc c ns l, v => ∃ a oe d, v = .ref a ∧ (a, oe) ∈ S.pn ∧ Zc (.ref (S.A c)) d oe ∧ (∃ vs, oe.data = .fields vs) ∧
      ((ns = [] ∧ l = [] ∧ d = none) ∨ ∃ dd fs, d = some dd ∧ F dd = some (.xd fs) ∧ fs.map (·.1) = ns ∧ reps S io F l (fs.map (·.2)))
  | .txt, v => ∃ m, v = .str m
def reps (S : Sx) (io : List Addr) (F : Hp) : List D → List V → Prop
  | [], xs => xs = []
  | d :: l, xs => ∃ x r, xs = x :: r ∧ rep S io F d x ∧ reps S io F l r
end
section
variable {S : Sx} {io : List Addr} {F : Hp}
theorem reps.nil : reps S io F [] [] := by unfold reps; rfl
theorem reps.cons {d : D} {l : List D} {x : V} {r : List V} (h : rep S io F d x) (t : reps S io F l r) : reps S io F (d :: l) (x :: r) := by
  unfold reps; exact ⟨x, r, rfl, h, t⟩
theorem reps.uncons {d : D} {l : List D} {xs : List V} (h : reps S io F (d :: l) xs) : ∃ x r, xs = x :: r ∧ rep S io F d x ∧ reps S io F l r := by
  unfold reps at h; exact h
theorem reps.eq_nil {xs : List V} (h : reps S io F [] xs) : xs = [] := by unfold reps at h; exact h
theorem reps.take : ∀ {l : List D} {xs : List V} (n : Nat), reps S io F l xs → reps S io F (l.take n) (xs.take n)
  | _, _, 0, _ => by rw [List.take_zero, List.take_zero]; exact .nil
  | [], _, _ + 1, h => by rw [h.eq_nil]; exact .nil
  | d :: l, _, n + 1, h => by
    obtain ⟨x, r, rfl, h2, h3⟩ := h.uncons
    exact .cons h2 (reps.take n h3)
end
/-! ### a dict whose keys are tuples of numbers and None -/
/-! ### a state -/
end DL
namespace DL
open PySem PySem.Spec PyProof.Rows L2
abbrev En := List (Option D)
/-- an expression's outcome -/
inductive Out (α : Type) where
  | ok (a : α) (μ : List M) | ex (c : Str) (ns : List Str) (l : List D) (μ : List M) | stuck
/-- a statement's -/
inductive SO where
  | nx (e : En) (μ : List M) | rt (d : D) (μ : List M) | bk (e : En) (μ : List M) | ct (e : En) (μ : List M) | ex (c : Str) (ns : List Str) (l : List D) (e : En) (μ : List M) | stuck
@[simp] def Out.bind {α β : Type} : Out α → (α → List M → Out β) → Out β
  | .ok a μ, f => f a μ
  | .ex c ns l μ, _ => .ex c ns l μ
  | .stuck, _ => .stuck
@[simp] def Out.bindS {α : Type} : Out α → En → (α → List M → SO) → SO
  | .ok a μ, _, f => f a μ
  | .ex c ns l μ, e, _ => .ex c ns l e μ
  | .stuck, _, _ => .stuck
@[simp] def SO.bind : SO → (En → List M → SO) → SO
  | .nx e μ, f => f e μ
  | .rt d μ, _ => .rt d μ
  | .bk e μ, _ => .bk e μ
  | .ct e μ, _ => .ct e μ
  | .ex c ns l e μ, _ => .ex c ns l e μ
  | .stuck, _ => .stuck
abbrev DE := En → List M → Out D
abbrev DT := En → List M → Out Bool
abbrev DA := En → List M → Out (List D)
section
variable {X : Cx} {S : Sx} {W : WX} {a b e : Expr} {es : List Expr} {da db d : DE} {pos : Pos} {k : Nat}
/-! ### the binds -/
/-! ### names, constants -/
@[simp] def dC (d : D) : DE := fun _ μ => .ok d μ
end
end DL
namespace DL
open PySem PySem.Spec PyProof.Rows L2
/-! ### what is read of a datum -/
/-! ### operators -/
end DL
namespace DL
open PySem PySem.Spec PyProof.Rows L2
/-! ### equality of plain data -/
end DL
namespace DL
open PySem PySem.Spec PyProof.Rows L2
/-! ### the widest readings of a denotation -/
section
variable {X : Cx} {S : Sx} {W : WX} {a b e : Expr} {es : List Expr} {da db d : DE} {dt : DT} {ds : DA} {pos : Pos} {k : Nat}
/-! ### arguments, displays -/
@[simp] def aNil : DA := fun _ μ => .ok [] μ
/-! ### subscripts -/
/-! ### slices -/
/-! ### fields -/
end
end DL
namespace DL
open PySem PySem.Spec PyProof.Rows L2
open Classical in
noncomputable def guard (g : List M → Prop) (μ : List M) : Bool := decide (g μ)
theorem guard_iff {g : List M → Prop} {μ : List M} : guard g μ = true ↔ g μ := by unfold guard; simp
@[simp] theorem guard_true {μ : List M} : guard (fun _ => True) μ = true := guard_iff.mpr trivial
/-! ### targets -/
@[simp] def gsNil : List D → En → List M → Option En := fun l env _ => match l with
  | [] => some env
  | _ => none
end DL
namespace DL
open PySem PySem.Spec PyProof.Rows L2
end DL
namespace DL
open PySem PySem.Spec PyProof.Rows L2
section
variable {X : Cx} {S : Sx} {W : WX} {a b e tg : Expr} {es : List Expr} {da db d : DE} {dt : DT} {ds : DA} {pos : Pos} {k : Nat}
/-! ### comprehensions -/
@[simp] def tYes' : DT := fun _ μ => .ok true μ
end
end DL
namespace DL
open PySem PySem.Spec PyProof.Rows L2
/-! ### what a def hands back: cells of its own become data -/
mutual
def clean (n : Nat) : D → Bool
  | .cel i => decide (i < n)
  | .tup l => cleans n l | .lst l => cleans n l | .dct _ l => cleans n l | .obj _ _ l => cleans n l | .exc _ _ _ => false
  | _ => true
def cleans (n : Nat) : List D → Bool
  | [] => true
  | d :: l => clean n d && cleans n l
end
def cleanM (n : Nat) : M → Bool
  | .lst l => cleans n l
  | .dct _ l => cleans n l
  | .obj _ _ l => cleans n l
  | .dead => true
  | .dcT _ l => cleans n l
  | .lck _ l => cleans n l
end DL
/-! ### two ways to let exceptions out: none of them has a context (false), or they may (true) -/
namespace DL
open PySem PySem.Spec PyProof.Rows L2
/-! ### the same, at another number of cells -/
/-! ### what a def promises -/
/-! ### calls -/
end DL
namespace DL
open PySem PySem.Spec PyProof.Rows L2
section
variable {X : Cx} {S : Sx} {W : WX} {a b e o : Expr} {es : List Expr} {da db d : DE} {ds : DA} {pos p : Pos} {k : Nat}
/-! ### types -/
abbrev Ty := Sum String Str
def tyv (S : Sx) : Ty → Value
  | .inl n => .type n
  | .inr c => .ref (S.A c)
/-! ### calls of built-ins -/
/-! isinstance -/
def supers : List (Str × Str) := [("PutRows", "OfRows"), ("PutRows", "Lines"), ("PutRows", "Change"), ("TakeRows", "OfRows"), ("TakeRows", "Lines"), ("TakeRows", "Change"), ("PutColumns", "OfColumns"), ("PutColumns", "Lines"), ("PutColumns", "Change"),
  ("TakeColumns", "OfColumns"), ("TakeColumns", "Lines"), ("TakeColumns", "Change"), ("Move", "Change"), ("Lines", "Change"), ("OfRows", "Lines"), ("OfColumns", "Lines"), ("OfRows", "Change"), ("OfColumns", "Change")]
def isSub : Ty → Ty → Bool
  | .inl a, .inl b => a == b || (a == "bool" && b == "int")
  | .inr a, .inr b => a == b || supers.contains (a, b)
  | _, _ => false
def plainTys : List String := ["NoneType", "bool", "int", "str", "tuple", "list", "dict"]
def tysOf (S : Sx) : List Ty := plainTys.map .inl ++ S.cls.map .inr
/-! len -/
/-! int, min, max, list, tuple, divmod, all, any, str -/
end
end DL
namespace DL
open PySem PySem.Spec PyProof.Rows L2
end DL
namespace DL
open PySem PySem.Spec PyProof.Rows L2
end DL
namespace DL
open PySem PySem.Spec PyProof.Rows L2
/-! ### a new list handed back, to be changed by the caller -/
end DL
/-! ### the head's facts, with one more test -/
namespace DL
open PySem PySem.Spec PyProof.Rows L2 He
abbrev AlX : Type := Bool × AlD
def obsX (chk : PySem.W.Frag → Bool) (fa : List Fa) (fn : List DefD) (K : PySem.W.Frag) : AlX := (chk K, obsD fa fn K)
def obsXG (n : Nat) (chk : PySem.W.Frag → Bool) (fa : List Fa) (fn : List DefD) (g : Addr → Option Obj) : AlX := obsX chk fa fn (frG g (asD g n))
def hookX (n : Nat) (chk : PySem.W.Frag → Bool) (fa : List Fa) (fn : List DefD) : PySem.W.Hook where
  α := AlX
  obs := fun s => obsXG n chk fa fn s.heap.get?
  val := fun _ => (true, valD fn)
  says := fun _ h => ∃ K : PySem.W.Frag, K.In h ∧ obsX chk fa fn K = (true, valD fn)
  of := fun _ _ e => ⟨_, frG_in, e⟩
  keeps := fun _ _ _ ⟨K, hK, c⟩ k => ⟨K, PySem.W.Frag.In.keeps hK k, c⟩
/-! ### what is known of a def, a class, a method -/
end DL
namespace DL
open PySem PySem.Spec PyProof.Rows L2
end DL
namespace DL
open PySem PySem.Spec PyProof.Rows L2
/-! ### <, <=, >, >= of alike data -/
end DL
namespace DL
open PySem PySem.Spec PyProof.Rows L2
/-! ### the ends: the law's def, from its value -/
/-- decidable readings of what a class, a kind needs -/
def insB (K : PySem.W.Frag) (C : Addr) : Bool := He.eqO (PySem.W.findIn K (.ref C) "__class__") (some (some (.builtin "object.__class__"))) && (He.eqO (PySem.W.specialIn K (.builtin "object.__class__") "__get__") (some (some (.builtin "getset_descriptor.__get__"))) &&
  (decide (PySem.W.takesIn K (.builtin "object.__class__") = some true) && decide (PySem.W.mroIn K C (.type "object") = some true)))
def kitB (S : Sx) (u : Ty) : Bool := (tysOf S).all fun t => decide (PySem.W.kitOne S.K (tyv S t) (tyv S u) = some (isSub t u))
end DL
namespace DL
open PySem PySem.Spec PyProof.Rows L2
/-! ### what a denotation comes to: its value, by what is asked behind it. The boxes keep what is asked behind out of simp's sight -/
end DL
namespace DL
open PySem PySem.Spec PyProof.Rows L2
end DL
namespace DL
open PySem PySem.Spec PyProof.Rows L2
section
variable {m : List M} {i j : Int} {x y : Str} {b c : Bool} {l l' : List D} {d : D}
/-! what a def hands back -/
def Cln (m : List M) : Prop := ∀ x ∈ m, cleanM 0 x = true
mutual
theorem clean_up {n : Nat} : ∀ d : D, clean 0 d = true → clean n d = true
  | .cel i, h => by unfold clean at h; cases of_decide_eq_true h
  | .tup l, h => by unfold clean at h ⊢; exact cleans_up l h
  | .lst l, h => by unfold clean at h ⊢; exact cleans_up l h
  | .dct ks l, h => by unfold clean at h ⊢; exact cleans_up l h
  | .obj c ns l, h => by unfold clean at h ⊢; exact cleans_up l h
  | .exc c ns l, h => by unfold clean at h; cases h
  | .non, _ => rfl
  | .txt, _ => rfl
  | .bl _, _ => rfl
  | .int _, _ => rfl
  | .str _, _ => rfl
  | .ty _, _ => rfl
  | .glo _, _ => rfl
  | .scr _, _ => rfl
theorem cleans_up {n : Nat} : ∀ l : List D, cleans 0 l = true → cleans n l = true
  | [], _ => rfl
  | d :: l, h => by
    unfold cleans at h ⊢
    have h := Bool.and_eq_true_iff.mp h
    rw [clean_up d h.1, cleans_up l h.2]; rfl
end
theorem cleanM_up {n : Nat} {x : M} (h : cleanM 0 x = true) : cleanM n x = true := by
  cases x <;> first | rfl | exact cleans_up _ h
theorem Cln.all {n k : Nat} (h : Cln m) : (m.take n).all (cleanM k) = true := List.all_eq_true.mpr fun x hx => cleanM_up (h x (List.mem_of_mem_take hx))
end
end DL
namespace DL
open PySem PySem.Spec PyProof.Rows L2
end DL
namespace DL
open PySem PySem.Spec PyProof.Rows L2
end DL
namespace DL
open PySem PySem.Spec PyProof.Rows L2
/-! ### x == y, x an object of a class with an own __eq__ -/
end DL
namespace PySem.W
open PySem PySem.Calls PyProof.Rows
end PySem.W
namespace DL
open PySem PySem.Spec PyProof.Rows L2
/-! ### x != y, x an object of a class with an own __eq__ and no __ne__ -/
end DL
namespace DL
open PySem PySem.Spec PyProof.Rows L2
/-! ### makings with keywords -/
end DL
namespace DL
open PySem PySem.Spec PyProof.Rows L2
/-! ### str(x), repr(x), f'{x}' of an object whose class says how -/
end DL
namespace DL
open PySem PySem.Spec PyProof.Rows L2
/-! ### defaults, as data -/
end DL
namespace DL
open PySem PySem.Spec PyProof.Rows L2
end DL
namespace DL
open PySem PySem.Spec PyProof.Rows L2
end DL
namespace DL
open PySem PySem.Spec PyProof.Rows L2
/-! ### decidable readings of what a class needs -/
end DL
namespace DL
open PySem PySem.Spec PyProof.Rows L2
/-! ### readings of the further denotations -/
end DL
namespace DL
open PySem PySem.Spec PyProof.Rows L2
/-! ### a making, by what __init__ comes to -/
/-! ### plain data: equality, cleanliness, by parts -/
end DL
namespace DL
open PySem PySem.Spec PyProof.Rows L2
end DL
namespace DL
open PySem PySem.Spec PyProof.Rows L2
end DL
namespace DL
open PySem PySem.Spec PyProof.Rows L2
end DL
/-! ### where a token is out: x.replace(y, z) -/
namespace DL
open PySem PySem.Spec PyProof.Rows L2
end DL
/-! ### list * int -/
namespace DL
open PySem PySem.Spec PyProof.Rows L2
end DL
set_option maxHeartbeats 1000000
/-! ### a comprehension while an exception is handled -/
namespace L2P
open PySem PySem.Spec PyProof.Rows L2 L2H HotX
end L2P
set_option maxHeartbeats 1000000
/-! ### a def that is called while an exception is handled; what it promises may speak of that exception -/
namespace L2P
open PySem PySem.Spec PyProof.Rows L2 L2H HotX
end L2P
namespace DL
open PySem PySem.Spec PyProof.Rows L2 L2P L2H
/-! ### data while an exception is pinned -/
end DL
set_option maxHeartbeats 1000000
/-! ### rules where an exception is handled -/
namespace L2H
open PySem PySem.Spec PyProof.Rows L2
end L2H
namespace DL
open PySem PySem.Spec PyProof.Rows L2 L2P L2H
/-! what an exception is -/
def exSub (x : Str) : Ty → Bool
  | .inr u => x == u || u == "CellError"
  | .inl n => n == "ValueError"
def exCB (K : PySem.W.Frag) (D : Addr) : Bool := He.eqO (PySem.W.findIn K (.ref D) "__getattribute__") (some (some (.builtin "BaseException.__getattribute__"))) && (He.eqO (PySem.W.findIn K (.ref D) "__getattr__") (some none) &&
  (decide (PySem.W.subIn K (.ref D) (.type "BaseException") = some true) && (PySem.W.hasDictIn K D && (He.eqO (PySem.W.findIn K (.ref D) "__class__") (some (some (.builtin "object.__class__"))) &&
  (He.eqO (PySem.W.specialIn K (.builtin "object.__class__") "__get__") (some (some (.builtin "getset_descriptor.__get__"))) && (decide (PySem.W.takesIn K (.builtin "object.__class__") = some true) && decide (PySem.W.mroIn K D (.type "object") = some true)))))))
def excsB (S : Sx) (xs : List Str) (u : Ty) : Bool := xs.all fun x => exCB S.K (S.A x) && decide (PySem.W.kitOne S.K (.ref (S.A x)) (tyv S u) = some (exSub x u))
def exmB (S : Sx) (xs : List Str) (u : Str) : Bool := xs.all fun x => decide (PySem.W.exmOne S.K (.ref (S.A x)) (.ref (S.A u)) = some (exSub x (.inr u)))
end DL
set_option maxHeartbeats 1000000
namespace DL
open PySem PySem.Spec PyProof.Rows L2 L2P L2H
/-! ### calls of a def from a suite; such a def -/
/-! ### try: .. except u as n: .. -/
end DL
namespace DL
open PySem PySem.Spec PyProof.Rows L2 L2P L2H
end DL
namespace DL
open PySem PySem.Spec PyProof.Rows L2
end DL
set_option maxHeartbeats 1000000
namespace DL
open PySem PySem.Spec PyProof.Rows L2 Builtin.Str
/-! ### str(x) of a tuple of two numbers: some text, which one is not known (a repr of it may be under way) -/
end DL
set_option maxHeartbeats 1000000
namespace DL
open PySem PySem.Spec PyProof.Rows L2
/-! ### B.__init__(self, ..), B an own class over ValueError that has no __init__ of its own -/
/-! ### C(..), C an own class over ValueError with an own __init__ -/
/-! ### such an __init__ -/
/-! ### what a class must have, as a check -/
end DL
set_option maxHeartbeats 2000000
/-! ### try: .. except (A, B): .., where the suite is not come to: other exceptions pass -/
namespace DL
open PySem PySem.Spec PyProof.Rows L2
end DL
set_option maxHeartbeats 1000000
namespace DL
open PySem PySem.Spec PyProof.Rows L2
/-! ### readings -/
end DL
/-! ### a list, a dict among texts: none of them is equal to it -/
namespace PySem.SeqAt
open AutoSeq1 (wpAny_loadPart')
open MeetsSeq
end PySem.SeqAt
namespace DL
open PySem PySem.Spec PyProof.Rows L2
end DL
/-! ### the head's facts, with the classes' common record besides (reading an attribute off a class looks there) -/
namespace DL
open PySem PySem.Spec PyProof.Rows L2 He
end DL
namespace DL
open PySem PySem.Spec PyProof.Rows L2
/-! ### f'{x!r}' of an object whose class says how -/
/-! ### readings -/
end DL
set_option maxHeartbeats 1000000
/-! zip(a, b, strict=True): a list beside a tuple, of one length -/
set_option maxHeartbeats 1000000
/-! a strict zip, walked -/
namespace DL
open PySem PySem.Spec PyProof.Rows L2 L2P L2H
/-! ### for a, b in zip(xs, ys, strict=True): a list beside a tuple of as many items -/
/-! ### readings -/
end DL
/-! ### the top's run, looked at in parts: each part is its own run in the kernel, so that none needs all the memory at once -/
namespace DL
open PySem PySem.Spec PyProof.Rows L2 He
end DL
namespace DL
open PySem PySem.Spec PyProof.Rows L2
/-! ### max(xs) of a list of whole numbers -/
end DL
set_option maxHeartbeats 1000000
/-! t[::-1] of a tuple of two -/
namespace DL
open PySem PySem.Spec PyProof.Rows L2
end DL
namespace DL
open PySem PySem.Spec PyProof.Rows L2
/-! ### x, y = f(..): two new lists handed back in a tuple, to be changed by the caller -/
end DL
/-! ### readings -/
namespace DL
open PySem PySem.Spec PyProof.Rows L2
end DL
/-! x != y, x == y of tuples that hold objects with an own ==, where all is equal -/
namespace DL
open PySem PySem.Spec PyProof.Rows L2
end DL
set_option maxHeartbeats 1000000
/-! repr([x]), x an object whose class says how -/
namespace LRepr
open PySem
open Sem (wp)
end LRepr
namespace LRepr
open PySem PySem.Spec PyProof.Rows L2 DL
end LRepr
namespace DL
open PySem PySem.Spec PyProof.Rows L2 LRepr
end DL
set_option maxHeartbeats 3200000
/-! sorted(set(xs)), xs a list of whole numbers -/
namespace DL
open PySem PySem.Spec PyProof.Rows L2
end DL
set_option maxHeartbeats 1000000
/-! dicts whose keys are tuples of numbers and None -/
namespace LTup
open PySem PySem.Spec PyProof.Rows L2 DL
end LTup
namespace LTup
open PySem PySem.Spec PyProof.Rows L2 DL
end LTup
set_option maxHeartbeats 2000000
/-! list(d.items()), d any dict, by its raw entries -/
set_option maxHeartbeats 1000000
namespace LTup
open PySem PySem.Spec PyProof.Rows L2 DL
end LTup
namespace DL
open PySem PySem.Spec PyProof.Rows L2 LTup
/-! ### at the data's level -/
end DL
namespace DL
open PySem PySem.Spec PyProof.Rows L2 LTup
end DL
set_option maxHeartbeats 1000000
/-! over d.items() of a locked dict with tuple keys -/
namespace LTup
open PySem PySem.Spec PyProof.Rows L2 DL
end LTup
namespace DL
open PySem PySem.Spec PyProof.Rows L2 LTup
end DL
namespace DL
open PySem PySem.Spec PyProof.Rows L2 LTup
/-! ### a dict is locked while an expression, a statement runs -/
end DL
namespace DL
open PySem PySem.Spec PyProof.Rows L2 LTup
/-! ### for k, x in enumerate(xs); xs.extend(ys) -/
end DL
set_option maxHeartbeats 1000000
/-! sorted(xs, key=f), f a def -/
set_option maxHeartbeats 1000000
namespace DL
open PySem PySem.Spec PyProof.Rows L2
/-! ### sorted(xs, key=f), the data's level -/
end DL
namespace DL
open PySem PySem.Spec PyProof.Rows L2 LTup
/-! readings of dicts with tuple keys, locks, enumerate, extend -/
end DL
namespace DL
open PySem PySem.Spec PyProof.Rows L2
/-! ### x in a list, x a tuple of plain data -/
end DL
set_option maxHeartbeats 0
namespace K12
open PySem PySem.Spec PyProof.Rows L2 DL
abbrev top (i : Nat) : Stmt := PySem.Challenge.pw_cellblocks_k12_cells_of_areas.main.body.getD i (.Pass ⟨0, 0, 0, 0⟩)
abbrev S0 (K : PySem.W.Frag) : Sx := ⟨K, He.ga K, 0, [], ["Block", "Area"]⟩
abbrev inClass (st : Stmt) (j : Nat) : Stmt := match st with
  | .ClassDef _ _ _ body _ _ _ _ _ _ _ => body.getD j (.Pass ⟨0, 0, 0, 0⟩)
  | s => s
abbrev st_law_source : Stmt := top 43
abbrev st_law_cell_at : Stmt := top 41
abbrev st_law_mixed : Stmt := top 42
abbrev st_law_next : Stmt := top 44
abbrev st_law_ends : Stmt := top 45
abbrev st_law_drawn : Stmt := top 46
abbrev st_checked_blocks : Stmt := top 37
abbrev st_is_whole : Stmt := top 9
abbrev st_is_count : Stmt := top 10
abbrev st_is_end : Stmt := top 17
abbrev st_Block_init__ : Stmt := inClass (top 22) 0
abbrev st_first_cell : Stmt := top 34
abbrev st_form_of : Stmt := top 33
abbrev st_stretches : Stmt := top 27
abbrev st_cuts_of : Stmt := top 28
abbrev st_is_at : Stmt := top 26
abbrev st_one_alone : Stmt := top 36
abbrev st_either : Stmt := top 35
abbrev st_with_run : Stmt := top 29
abbrev st_runs_by : Stmt := top 30
abbrev st_columns_at : Stmt := top 31
abbrev st_bands_by : Stmt := top 32
abbrev st_Area_init__ : Stmt := inClass (top 39) 0
abbrev st_law_made : Stmt := top 47
abbrev st_law_near : Stmt := top 49
abbrev st_is_cell : Stmt := top 11
abbrev st_checked_cell : Stmt := top 12
abbrev st_Block_has : Stmt := inClass (top 22) 4
abbrev st_Area_has : Stmt := inClass (top 39) 7
abbrev st_law_has : Stmt := top 48
abbrev st_law_refused : Stmt := top 50
abbrev st_law : Stmt := top 51
def d_law_source : He.DefD := ⟨("_law_source", none), "_law_source", "_law_source", defArgs st_law_source, defBody st_law_source, defScope st_law_source, [], []⟩
def d_law_cell_at : He.DefD := ⟨("_law_cell_at", none), "_law_cell_at", "_law_cell_at", defArgs st_law_cell_at, defBody st_law_cell_at, defScope st_law_cell_at, [], []⟩
def d_law_mixed : He.DefD := ⟨("_law_mixed", none), "_law_mixed", "_law_mixed", defArgs st_law_mixed, defBody st_law_mixed, defScope st_law_mixed, [], []⟩
def d_law_next : He.DefD := ⟨("_law_next", none), "_law_next", "_law_next", defArgs st_law_next, defBody st_law_next, defScope st_law_next, [], []⟩
def d_law_ends : He.DefD := ⟨("_law_ends", none), "_law_ends", "_law_ends", defArgs st_law_ends, defBody st_law_ends, defScope st_law_ends, [], []⟩
def d_law_drawn : He.DefD := ⟨("_law_drawn", none), "_law_drawn", "_law_drawn", defArgs st_law_drawn, defBody st_law_drawn, defScope st_law_drawn, [], []⟩
def d_checked_blocks : He.DefD := ⟨("checked_blocks", none), "checked_blocks", "checked_blocks", defArgs st_checked_blocks, defBody st_checked_blocks, defScope st_checked_blocks, [], []⟩
def d_is_whole : He.DefD := ⟨("is_whole", none), "is_whole", "is_whole", defArgs st_is_whole, defBody st_is_whole, defScope st_is_whole, [], []⟩
def d_is_count : He.DefD := ⟨("is_count", none), "is_count", "is_count", defArgs st_is_count, defBody st_is_count, defScope st_is_count, [], []⟩
def d_is_end : He.DefD := ⟨("is_end", none), "is_end", "is_end", defArgs st_is_end, defBody st_is_end, defScope st_is_end, [], []⟩
def d_Block_init__ : He.DefD := ⟨("Block", some "__init__"), "__init__", "Block.__init__", defArgs st_Block_init__, defBody st_Block_init__, defScope st_Block_init__, [(.int 1), (.int 1), .non, .non], []⟩
def d_first_cell : He.DefD := ⟨("first_cell", none), "first_cell", "first_cell", defArgs st_first_cell, defBody st_first_cell, defScope st_first_cell, [], []⟩
def d_form_of : He.DefD := ⟨("form_of", none), "form_of", "form_of", defArgs st_form_of, defBody st_form_of, defScope st_form_of, [], []⟩
def d_stretches : He.DefD := ⟨("stretches", none), "stretches", "stretches", defArgs st_stretches, defBody st_stretches, defScope st_stretches, [], []⟩
def d_cuts_of : He.DefD := ⟨("cuts_of", none), "cuts_of", "cuts_of", defArgs st_cuts_of, defBody st_cuts_of, defScope st_cuts_of, [], []⟩
def d_is_at : He.DefD := ⟨("is_at", none), "is_at", "is_at", defArgs st_is_at, defBody st_is_at, defScope st_is_at, [], []⟩
def d_one_alone : He.DefD := ⟨("one_alone", none), "one_alone", "one_alone", defArgs st_one_alone, defBody st_one_alone, defScope st_one_alone, [], []⟩
def d_either : He.DefD := ⟨("either", none), "either", "either", defArgs st_either, defBody st_either, defScope st_either, [], []⟩
def d_with_run : He.DefD := ⟨("with_run", none), "with_run", "with_run", defArgs st_with_run, defBody st_with_run, defScope st_with_run, [], []⟩
def d_runs_by : He.DefD := ⟨("runs_by", none), "runs_by", "runs_by", defArgs st_runs_by, defBody st_runs_by, defScope st_runs_by, [], []⟩
def d_columns_at : He.DefD := ⟨("columns_at", none), "columns_at", "columns_at", defArgs st_columns_at, defBody st_columns_at, defScope st_columns_at, [], []⟩
def d_bands_by : He.DefD := ⟨("bands_by", none), "bands_by", "bands_by", defArgs st_bands_by, defBody st_bands_by, defScope st_bands_by, [], []⟩
def d_Area_init__ : He.DefD := ⟨("Area", some "__init__"), "__init__", "Area.__init__", defArgs st_Area_init__, defBody st_Area_init__, defScope st_Area_init__, [.non], []⟩
def d_law_made : He.DefD := ⟨("_law_made", none), "_law_made", "_law_made", defArgs st_law_made, defBody st_law_made, defScope st_law_made, [], []⟩
def d_law_near : He.DefD := ⟨("_law_near", none), "_law_near", "_law_near", defArgs st_law_near, defBody st_law_near, defScope st_law_near, [], []⟩
def d_is_cell : He.DefD := ⟨("is_cell", none), "is_cell", "is_cell", defArgs st_is_cell, defBody st_is_cell, defScope st_is_cell, [], []⟩
def d_checked_cell : He.DefD := ⟨("checked_cell", none), "checked_cell", "checked_cell", defArgs st_checked_cell, defBody st_checked_cell, defScope st_checked_cell, [], []⟩
def d_Block_has : He.DefD := ⟨("Block", some "has"), "has", "Block.has", defArgs st_Block_has, defBody st_Block_has, defScope st_Block_has, [], []⟩
def d_Area_has : He.DefD := ⟨("Area", some "has"), "has", "Area.has", defArgs st_Area_has, defBody st_Area_has, defScope st_Area_has, [], []⟩
def d_law_has : He.DefD := ⟨("_law_has", none), "_law_has", "_law_has", defArgs st_law_has, defBody st_law_has, defScope st_law_has, [], []⟩
def d_law_refused : He.DefD := ⟨("_law_refused", none), "_law_refused", "_law_refused", defArgs st_law_refused, defBody st_law_refused, defScope st_law_refused, [], []⟩
def d_law : He.DefD := ⟨("law", none), "law", "law", defArgs st_law, defBody st_law, defScope st_law, [], []⟩
def fns0 : List He.DefD := [d_law_source, d_law_cell_at, d_law_mixed, d_law_next, d_law_ends, d_law_drawn, d_checked_blocks, d_is_whole, d_is_count, d_is_end, d_Block_init__, d_first_cell, d_form_of, d_stretches, d_cuts_of, d_is_at, d_one_alone, d_either, d_with_run, d_runs_by, d_columns_at, d_bands_by, d_Area_init__, d_law_made, d_law_near, d_is_cell, d_checked_cell, d_Block_has, d_Area_has, d_law_has]
def fns1 : List He.DefD := [d_law_refused, d_law]
def fns : List He.DefD := fns0 ++ (fns1)
def fas0 : List He.Fa := [.glo "Area", .glo "Block", .glo "CellError", .glo "NoArea", .glo "NoBlock", .glo "NoCell", .glo "NoNumber", .glo "either", .glo "one_alone", .free "all", .free "any", .free "bool", .free "enumerate", .free "int", .free "isinstance", .free "len", .free "list", .free "max", .free "range", .free "set", .free "sorted", .free "str", .free "tuple", .str "LETTERS" "ABCDEFGHIJKLMNOPQRSTUVWXYZ", .exc "NoBlock", .exc "NoCell", .noat "Block" "bottom", .noat "Area" "bottom", .noat "Block" "form", .noat "Area" "form"]
def fas1 : List He.Fa := [.noat "Block" "left", .noat "Area" "left", .noat "Block" "right", .noat "Area" "right", .noat "Block" "top", .noat "Area" "top", .cls "Block", .cls "Area", .glo "_law_source", .glo "_law_cell_at", .glo "_law_mixed", .glo "_law_next", .glo "_law_ends", .glo "_law_drawn", .glo "checked_blocks", .glo "is_whole", .glo "is_count", .glo "is_end", .glo "first_cell", .glo "form_of", .glo "stretches", .glo "cuts_of", .glo "is_at", .glo "with_run", .glo "runs_by", .glo "columns_at", .glo "bands_by", .glo "_law_made", .glo "_law_near", .glo "is_cell"]
def fas2 : List He.Fa := [.glo "checked_cell", .glo "_law_has", .glo "_law_refused", .glo "law", .mkr "Block", .mkr "Area", .meth "Block" "has", .meth "Area" "has"]
def fas : List He.Fa := fas0 ++ (fas1 ++ (fas2))
def chk (K : PySem.W.Frag) : Bool := insB K (He.ga K "Block") && (insB K (He.ga K "Area") && (kitB (S0 K) (.inr "Block") && (kitB (S0 K) (.inl "bool") && (kitB (S0 K) (.inl "int") && (kitB (S0 K) (.inl "list") && (kitB (S0 K) (.inl "tuple") && (excsB (S0 K) (["NoCell", "NoColumn", "NoBlock"] : List Str) (.inr "NoArea") && (excsB (S0 K) (["NoCell", "NoColumn", "NoBlock"] : List Str) (.inr "NoBlock") && (excsB (S0 K) (["NoCell", "NoColumn", "NoBlock"] : List Str) (.inr "NoCell") && (excsB (S0 K) (["NoCell", "NoColumn", "NoBlock"] : List Str) (.inr "NoNumber") && (exmB (S0 K) (["NoCell", "NoColumn", "NoBlock"] : List Str) "CellError")))))))))))
def nms0 : List Str := ["_wall", "CellError", "NoCell", "NoColumn", "NoBlock", "NoArea", "NoNumber", "is_whole", "is_count", "is_cell", "checked_cell", "LETTERS", "letters_of", "is_end", "is_rows", "is_columns", "letters_ahead", "by_ends", "Block", "row_text", "column_text", "is_at", "stretches", "cuts_of", "with_run", "runs_by", "columns_at", "bands_by", "form_of", "first_cell"]
def nms1 : List Str := ["either", "one_alone", "checked_blocks", "checked_area", "Area", "_law_cell_at", "_law_mixed", "_law_source", "_law_next", "_law_ends", "_law_drawn", "_law_made", "_law_has", "_law_near", "_law_refused"]
def nms : List Str := nms0 ++ (nms1)
abbrev R : PySem.W.OpenRow := PySem.W.OpenLaw.row PySem.Challenge.rw_cellblocks_k12_cells_of_areas
abbrev hk : PySem.W.Hook := hookX 4 chk fas fns
def ob (s : PySem.W.SharedT) : AlX := obsXG 4 chk fas fns (HandSHeadRun.getT s)
theorem run (w : World) : HandSHeadRun.RunEq R (PySem.W.view R.prog [51]) hk ob 16000 nms w := by
  intro os
  kernel_rfl
end K12
set_option Elab.async false
set_option linter.all false
set_option maxRecDepth 100000
/-! A small interpreter's data: what a Python value is worth (D), the cells that may change (M), and how both lie in the layer's heap. -/
namespace DL
open PySem PySem.Spec PyProof.Rows L2
structure Cf where
  io : List Addr
  F : Hp
  H : Hp
def Ex (H H' : Hp) : Prop := ∀ a o, H a = some o → H' a = some o
theorem Ex.refl (H : Hp) : Ex H H := fun _ _ h => h
theorem Ex.trans {H H1 H2 : Hp} (a : Ex H H1) (b : Ex H1 H2) : Ex H H2 := fun x o h => b x o (a x o h)
theorem Ex.new {H : Hp} {p : Addr} {o : HO} (h : H p = none) : Ex H (upd H p o) := fun a u e => by
  rw [upd_ne (ne_of_none e h)]
  exact e
theorem Ex.back {H H' : Hp} {p : Addr} (e : Ex H H') (h : H' p = none) : H p = none := by
  cases h1 : H p with
  | none => rfl
  | some o => rw [e p o h1] at h; cases h
theorem Ex.upd {F H : Hp} {p : Addr} {o : HO} (e : Ex F H) : Ex (L2.upd F p o) (L2.upd H p o) := fun a u h => by
  by_cases q : a = p
  · subst q; rw [upd_same] at h ⊢; exact h
  · rw [upd_ne q] at h ⊢; exact e a u h
theorem Ex.updR {F H : Hp} {p : Addr} {o : HO} (e : Ex F H) (h : F p = none) : Ex F (L2.upd H p o) := fun a u q => by
  rw [upd_ne (ne_of_none q h)]; exact e a u q
theorem ex_rd {H H' : Hp} {a : Addr} {u : HO} (e : Ex H H') (h : Rd H a u) : Rd H' a u := by
  rcases h with h | ⟨o, h⟩
  · exact Or.inl (e a _ h)
  · exact Or.inr ⟨o, e a _ h⟩
theorem ex_l {K : PySem.W.Frag} {H H' : Hp} {a : Addr} {xs : List V} (e : Ex H H') (h : SqL K H a xs) : SqL K H' a xs := by
  rcases h with h | h
  · exact Or.inl (ex_rd e h)
  · exact Or.inr h
theorem ex_t {K : PySem.W.Frag} {H H' : Hp} {a : Addr} {xs : List V} (e : Ex H H') (h : SqT K H a xs) : SqT K H' a xs := by
  rcases h with h | h
  · exact Or.inl (ex_rd e h)
  · exact Or.inr h
theorem sq_of {K : PySem.W.Frag} {H : Hp} {a : Addr} {xs : List V} (h : H a = some (.lst xs)) : SqL K H a xs := Or.inl (Or.inl h)
theorem st_of {K : PySem.W.Frag} {H : Hp} {a : Addr} {xs : List V} (h : H a = some (.tup xs)) : SqT K H a xs := Or.inl (Or.inl h)
/-! ### how a datum lies in the heap -/
mutual
theorem rep.mono {S : Sx} {io io' : List Addr} {F F' : Hp} (hi : io <+: io') (e : Ex F F') : ∀ (d : D) {v : V}, rep S io F d v → rep S io' F' d v
  | .non, _, h => by unfold rep at h ⊢; exact h
  | .bl b, _, h => by unfold rep at h ⊢; exact h
  | .int i, _, h => by unfold rep at h ⊢; exact h
  | .str s, _, h => by unfold rep at h ⊢; exact h
  | .ty n, _, h => by unfold rep at h ⊢; exact h
  | .glo x, _, h => by unfold rep at h ⊢; exact h
  | .tup l, _, h => by
    unfold rep at h ⊢
    obtain ⟨a, xs, h1, h2, h3⟩ := h
    exact ⟨a, xs, h1, ex_t e h2, reps.mono hi e l h3⟩
  | .lst l, _, h => by
    unfold rep at h ⊢
    obtain ⟨a, xs, h1, h2, h3⟩ := h
    exact ⟨a, xs, h1, e _ _ h2, reps.mono hi e l h3⟩
  | .scr ns, _, h => by
    unfold rep at h ⊢
    obtain ⟨a, h1, h2⟩ := h
    exact ⟨a, h1, ex_l e h2⟩
  | .dct ks l, _, h => by
    unfold rep at h ⊢
    obtain ⟨a, xs, h1, h2, h3, h4⟩ := h
    exact ⟨a, xs, h1, e _ _ h2, h3, reps.mono hi e l h4⟩
  | .obj c ns l, _, h => by
    unfold rep at h ⊢
    obtain ⟨a, dx, fs, h1, h2, h3, h4, h5⟩ := h
    exact ⟨a, dx, fs, h1, e _ _ h2, h3, reps.mono hi e l h4, h5⟩
  | .cel i, _, h => by
    unfold rep at h ⊢
    obtain ⟨a, h1, h2⟩ := h
    obtain ⟨z, rfl⟩ := hi
    refine ⟨a, h1, ?_⟩
    rw [List.getElem?_append_left (List.getElem?_eq_some_iff.mp h2).1]
    exact h2
  | .exc c ns l, _, h => by
    unfold rep at h ⊢
    obtain ⟨a, oe, d, h1, h2, h3, h4, h5⟩ := h
    refine ⟨a, oe, d, h1, h2, h3, h4, ?_⟩
    rcases h5 with h5 | ⟨dd, fs, h5, h6, h7, h8⟩
    · exact Or.inl h5
    · exact Or.inr ⟨dd, fs, h5, e _ _ h6, h7, reps.mono hi e l h8⟩
  | .txt, _, h => by unfold rep at h ⊢; exact h
theorem reps.mono {S : Sx} {io io' : List Addr} {F F' : Hp} (hi : io <+: io') (e : Ex F F') : ∀ (l : List D) {xs : List V}, reps S io F l xs → reps S io' F' l xs
  | [], _, h => by unfold reps at h ⊢; exact h
  | d :: l, _, h => by
    unfold reps at h ⊢
    obtain ⟨x, r, h1, h2, h3⟩ := h
    exact ⟨x, r, h1, rep.mono hi e d h2, reps.mono hi e l h3⟩
end
section
variable {S : Sx} {io : List Addr} {F : Hp}
theorem reps.len : ∀ {l : List D} {xs : List V}, reps S io F l xs → l.length = xs.length
  | [], _, h => by unfold reps at h; rw [h]; rfl
  | d :: l, _, h => by
    unfold reps at h
    obtain ⟨x, r, rfl, _, h3⟩ := h
    rw [List.length_cons, List.length_cons, reps.len h3]
theorem reps.get : ∀ {l : List D} {xs : List V} {i : Nat} {d : D}, reps S io F l xs → l[i]? = some d → ∃ x, xs[i]? = some x ∧ rep S io F d x
  | [], _, _, _, _, e => by simp at e
  | d :: l, _, 0, _, h, e => by
    obtain ⟨x, r, rfl, h2, _⟩ := h.uncons
    simp at e; subst e
    exact ⟨x, rfl, h2⟩
  | d :: l, _, i + 1, _, h, e => by
    obtain ⟨x, r, rfl, _, h3⟩ := h.uncons
    simpa using reps.get (i := i) h3 (by simpa using e)
theorem reps.getV : ∀ {l : List D} {xs : List V} {i : Nat} {x : V}, reps S io F l xs → xs[i]? = some x → ∃ d, l[i]? = some d ∧ rep S io F d x
  | [], _, _, _, h, e => by rw [h.eq_nil] at e; simp at e
  | d :: l, _, 0, _, h, e => by
    obtain ⟨x, r, rfl, h2, _⟩ := h.uncons
    simp at e; subst e
    exact ⟨d, rfl, h2⟩
  | d :: l, _, i + 1, _, h, e => by
    obtain ⟨x, r, rfl, _, h3⟩ := h.uncons
    simpa using reps.getV (i := i) h3 (by simpa using e)
theorem reps.append : ∀ {l l' : List D} {xs ys : List V}, reps S io F l xs → reps S io F l' ys → reps S io F (l ++ l') (xs ++ ys)
  | [], _, _, _, h, h' => by rw [h.eq_nil]; exact h'
  | d :: l, _, _, _, h, h' => by
    obtain ⟨x, r, rfl, h2, h3⟩ := h.uncons
    exact .cons h2 (reps.append h3 h')
theorem reps.drop : ∀ {l : List D} {xs : List V} (n : Nat), reps S io F l xs → reps S io F (l.drop n) (xs.drop n)
  | _, _, 0, h => h
  | [], _, _ + 1, h => by rw [h.eq_nil]; exact .nil
  | d :: l, _, n + 1, h => by
    obtain ⟨x, r, rfl, _, h3⟩ := h.uncons
    exact reps.drop n h3
theorem reps.set {d : D} {x : V} (hd : rep S io F d x) : ∀ {l : List D} {xs : List V} (i : Nat), reps S io F l xs → reps S io F (l.set i d) (xs.set i x)
  | [], _, _, h => by rw [h.eq_nil]; exact .nil
  | e :: l, _, 0, h => by
    obtain ⟨y, r, rfl, h2, h3⟩ := h.uncons
    exact .cons hd h3
  | e :: l, _, i + 1, h => by
    obtain ⟨y, r, rfl, h2, h3⟩ := h.uncons
    exact .cons h2 (reps.set hd i h3)
theorem reps.reverse : ∀ {l : List D} {xs : List V}, reps S io F l xs → reps S io F l.reverse xs.reverse
  | [], _, h => by rw [h.eq_nil]; exact .nil
  | d :: l, _, h => by
    obtain ⟨x, r, rfl, h2, h3⟩ := h.uncons
    rw [List.reverse_cons, List.reverse_cons]
    exact (reps.reverse h3).append (.cons h2 .nil)
end
/-! ### a dict whose keys are tuples of numbers and None -/
def oV : Option Int → V
  | none => .non
  | some i => .int i
def hashO : Option Int → Int
  | none => 0xFCA86420
  | some i => hashInt i
def hashT (k : List (Option Int)) : Int := reduceHash (Builtin.Tuple.tupleHashOf (k.map hashO))
def entT (x : List (Option Int) × Addr × Value) : DictEntry := ⟨hashT x.1, .ref x.2.1, x.2.2⟩
abbrev TKV := List (Option Int) × Addr × V
def relT (p : TKV) (q : List (Option Int) × Addr × Value) : Prop := p.1 = q.1 ∧ p.2.1 = q.2.1 ∧ RelV p.2.2 q.2.2
def RawT (h : Heap) (a : Addr) (kvs : List TKV) : Prop := kvs.length ≤ sizeLine ∧ (a == sysModules) = false ∧ ∃ xs, Paired relT kvs xs ∧
  ∃ o es ep, h.get? a = some o ∧ o.ExactDict ∧ o.data = .dict es ep ∧ es.toList = xs.map entT ∧ (xs.map (·.1)).Nodup
def dicT (a : Addr) (kvs : List TKV) : HO := .ext fun h => RawT h a kvs
/-- what stands in a locked dict -/
def LkIs (K : PySem.W.Frag) (F : Hp) (a : Addr) (u : HO) (vs : List V) : LK → Prop
  | .k ks => ∃ kvs : List (Key × V), u = .dK kvs ∧ kvs.map (·.1) = ks ∧ vs = kvs.map (·.2)
  | .t ks => ∃ kvs : List TKV, u = dicT a kvs ∧ kvs.map (·.1) = ks ∧ (∀ e ∈ kvs, SqT K F e.2.1 (e.1.map oV)) ∧ vs = kvs.map (·.2.2)
theorem LkIs.mono {K : PySem.W.Frag} {F F' : Hp} {a : Addr} {u : HO} {vs : List V} (e : Ex F F') : ∀ {t : LK}, LkIs K F a u vs t → LkIs K F' a u vs t
  | .k _, h => h
  | .t _, ⟨kvs, h1, h2, h3, h4⟩ => ⟨kvs, h1, h2, fun x hx => ex_t e (h3 x hx), h4⟩
/-! ### a state -/
def cellOk (S : Sx) (c : Cf) (a : Addr) : M → Prop
  | .lst l => c.F a = none ∧ ∃ xs, c.H a = some (.lst xs) ∧ reps S c.io c.F l xs
  | .dct ks l => c.F a = none ∧ ∃ kvs, c.H a = some (.dK kvs) ∧ kvs.map (·.1) = ks ∧ reps S c.io c.F l (kvs.map (·.2))
  | .obj x ns l => c.F a = none ∧ ∃ dx fs, c.H a = some (.ins (S.A x) dx fs) ∧ fs.map (·.1) = ns ∧ reps S c.io c.F l (fs.map (·.2))
  | .dead => ∃ o, c.H a = some o
  | .dcT ks l => c.F a = none ∧ ∃ kvs : List TKV, c.H a = some (dicT a kvs) ∧ kvs.map (·.1) = ks ∧ (∀ e ∈ kvs, SqT S.K c.F e.2.1 (e.1.map oV)) ∧ reps S c.io c.F l (kvs.map (·.2.2))
  | .lck ks l => ∃ od u vs, c.F a = some (.frz od u) ∧ c.H a = some (.frz od u) ∧ LkIs S.K c.F a u vs ks ∧ reps S c.io c.F l vs
structure SI (S : Sx) (c : Cf) (μ : List M) : Prop where
  ex : Ex c.F c.H
  len : c.io.length = μ.length
  nd : c.io.Nodup
  cell : ∀ (i : Nat) (a : Addr) (m : M), c.io[i]? = some a → μ[i]? = some m → cellOk S c a m
  cls : ∀ (i : Nat) (x : Str) (ns : List Str) (l : List D), μ[i]? = some (.obj x ns l) → x ∈ S.cls
theorem cellOk.there {S : Sx} {c : Cf} {a : Addr} {m : M} (h : cellOk S c a m) : ∃ o, c.H a = some o := by
  cases m with
  | lst l => obtain ⟨_, xs, h, _⟩ := h; exact ⟨_, h⟩
  | dct ks l => obtain ⟨_, xs, h, _⟩ := h; exact ⟨_, h⟩
  | obj x ns l => obtain ⟨_, dx, fs, h, _⟩ := h; exact ⟨_, h⟩
  | dead => exact h
  | dcT ks l => obtain ⟨_, xs, h, _⟩ := h; exact ⟨_, h⟩
  | lck ks l => obtain ⟨_, _, _, _, h, _⟩ := h; exact ⟨_, h⟩
theorem SI.there {S : Sx} {c : Cf} {μ : List M} (h : SI S c μ) {a : Addr} (m : a ∈ c.io) : ∃ o, c.H a = some o := by
  obtain ⟨i, hi, e⟩ := List.getElem_of_mem m
  have h1 : c.io[i]? = some a := by rw [List.getElem?_eq_getElem hi, e]
  have hm : i < μ.length := by rw [← h.len]; exact hi
  exact (h.cell i a _ h1 (List.getElem?_eq_getElem hm)).there
/-- a state behind another one -/
structure Step (S : Sx) (c c' : Cf) : Prop where
  pre : c.io <+: c'.io
  nd : c'.io.Nodup
  exF : Ex c.F c'.F
  frz : ∀ p, c.H p ≠ none → c.F p = none → c'.F p ≠ none → ∃ i, S.n0 ≤ i ∧ c.io[i]? = some p
  keep : ∀ p o, c.H p = some o → p ∉ c.io → c'.H p = some o
  new : ∀ p, p ∈ c'.io → p ∉ c.io → c.H p = none
  som : ∀ p, c.H p ≠ none → c'.H p ≠ none
theorem Step.rfl' {S : Sx} {c : Cf} (n : c.io.Nodup) : Step S c c :=
  ⟨List.prefix_refl _, n, Ex.refl _, fun _ _ h h' => absurd h h', fun _ _ h _ => h, fun _ h h' => absurd h h', fun _ h => h⟩
theorem SI.step {S : Sx} {c : Cf} {μ : List M} (I : SI S c μ) : Step S c c := Step.rfl' I.nd
theorem nodup_at {l : List Addr} (n : l.Nodup) {i j : Nat} {p : Addr} (h1 : l[i]? = some p) (h2 : l[j]? = some p) : i = j := by
  obtain ⟨a, b⟩ := List.getElem?_eq_some_iff.mp h1
  obtain ⟨c, d⟩ := List.getElem?_eq_some_iff.mp h2
  exact (List.getElem_inj n).mp (b.trans d.symm)
theorem Step.trans {S : Sx} {c c1 c2 : Cf} (a : Step S c c1) (b : Step S c1 c2) : Step S c c2 := by
  refine ⟨a.pre.trans b.pre, b.nd, a.exF.trans b.exF, fun p h1 h2 h3 => ?_, fun p o h1 h2 => ?_, fun p h1 h2 => ?_, fun p h => b.som p (a.som p h)⟩
  · cases e : c1.F p with
    | some o => exact a.frz p h1 h2 (by rw [e]; exact fun z => nomatch z)
    | none =>
      obtain ⟨i, hi, e1⟩ := b.frz p (a.som p h1) e h3
      by_cases hm : p ∈ c.io
      · obtain ⟨z, ez⟩ := a.pre
        obtain ⟨j, hj, ej⟩ := List.getElem_of_mem hm
        have e2 : c1.io[j]? = some p := by
          rw [← ez, List.getElem?_append_left hj, List.getElem?_eq_getElem hj, ej]
        have e3 := nodup_at a.nd e1 e2
        subst e3
        exact ⟨i, hi, by rw [List.getElem?_eq_getElem hj, ej]⟩
      · exact absurd (a.new p (List.mem_of_getElem? e1) hm) h1
  · refine b.keep p o (a.keep p o h1 h2) fun hm => ?_
    have := a.new p hm h2
    rw [h1] at this; cases this
  · by_cases hm : p ∈ c1.io
    · exact a.new p hm h2
    · have := b.new p h1 hm
      cases e : c.H p with
      | none => rfl
      | some o => exact absurd this (a.som p (by rw [e]; exact fun z => nomatch z))
theorem Step.rep {S : Sx} {c c' : Cf} (s : Step S c c') {d : D} {v : V} (h : rep S c.io c.F d v) : rep S c'.io c'.F d v := rep.mono s.pre s.exF d h
theorem Step.reps {S : Sx} {c c' : Cf} (s : Step S c c') {l : List D} {xs : List V} (h : reps S c.io c.F l xs) : reps S c'.io c'.F l xs := reps.mono s.pre s.exF l h
/-- a new object that never changes -/
theorem SI.fresh {S : Sx} {c : Cf} {μ : List M} (I : SI S c μ) {p : Addr} {o : HO} (hp : c.H p = none) :
    SI S ⟨c.io, upd c.F p o, upd c.H p o⟩ μ ∧ Step S c ⟨c.io, upd c.F p o, upd c.H p o⟩ := by
  have fp : c.F p = none := I.ex.back hp
  have ne : ∀ a, a ∈ c.io → a ≠ p := fun a m z => by
    obtain ⟨o, h⟩ := I.there m
    rw [z, hp] at h; cases h
  refine ⟨⟨I.ex.upd, I.len, I.nd, fun i a m h1 h2 => ?_, I.cls⟩, ⟨List.prefix_refl _, I.nd, Ex.new fp, fun q h1 h2 h3 => ?_, fun q u h1 h2 => ?_, fun q h1 h2 => absurd h1 h2, fun q h => ?_⟩⟩
  · have nep := ne a (List.mem_of_getElem? h1)
    have k := I.cell i a m h1 h2
    cases m with
    | lst l =>
      obtain ⟨k1, xs, k2, k3⟩ := k
      exact ⟨(upd_ne nep).trans k1, xs, (upd_ne nep).trans k2, reps.mono (List.prefix_refl _) (Ex.new fp) l k3⟩
    | dct ks l =>
      obtain ⟨k1, xs, k2, k3, k4⟩ := k
      exact ⟨(upd_ne nep).trans k1, xs, (upd_ne nep).trans k2, k3, reps.mono (List.prefix_refl _) (Ex.new fp) l k4⟩
    | obj x ns l =>
      obtain ⟨k1, dx, fs, k2, k3, k4⟩ := k
      exact ⟨(upd_ne nep).trans k1, dx, fs, (upd_ne nep).trans k2, k3, reps.mono (List.prefix_refl _) (Ex.new fp) l k4⟩
    | dead =>
      obtain ⟨u, k⟩ := k
      exact ⟨u, (upd_ne nep).trans k⟩
    | dcT ks l =>
      obtain ⟨k1, xs, k2, k3, k4, k5⟩ := k
      exact ⟨(upd_ne nep).trans k1, xs, (upd_ne nep).trans k2, k3, fun e he => ex_t (Ex.new fp) (k4 e he), reps.mono (List.prefix_refl _) (Ex.new fp) l k5⟩
    | lck ks l =>
      obtain ⟨od, u, vs, k1, k2, k3, k4⟩ := k
      exact ⟨od, u, vs, (upd_ne nep).trans k1, (upd_ne nep).trans k2, k3.mono (Ex.new fp), reps.mono (List.prefix_refl _) (Ex.new fp) l k4⟩
  · by_cases e : q = p
    · rw [e] at h1; exact absurd hp h1
    · have h3' : upd c.F p o q ≠ none := h3
      rw [upd_ne e] at h3'
      exact absurd h2 h3'
  · exact Ex.new hp q u h1
  · by_cases e : q = p
    · rw [e] at h; exact absurd hp h
    · show upd c.H p o q ≠ none
      rw [upd_ne e]; exact h
/-- a new cell -/
theorem SI.alloc {S : Sx} {c : Cf} {μ : List M} (I : SI S c μ) {p : Addr} {o : HO} {m : M} (hp : c.H p = none)
    (hm : ∀ io, c.io <+: io → cellOk S ⟨io, c.F, upd c.H p o⟩ p m) (hcl : ∀ (x : Str) (ns : List Str) (l : List D), m = .obj x ns l → x ∈ S.cls := by intro _ _ _ e; cases e) :
    SI S ⟨c.io ++ [p], c.F, upd c.H p o⟩ (μ ++ [m]) ∧ Step S c ⟨c.io ++ [p], c.F, upd c.H p o⟩ := by
  have fp : c.F p = none := I.ex.back hp
  have ne : ∀ a, a ∈ c.io → a ≠ p := fun a m z => by
    obtain ⟨o, h⟩ := I.there m
    rw [z, hp] at h; cases h
  have pre : c.io <+: c.io ++ [p] := List.prefix_append _ _
  have nd : (c.io ++ [p]).Nodup := List.nodup_append.mpr ⟨I.nd, by simp, fun a ha b hb => by
    have : b = p := by simpa using hb
    rw [this]; exact ne a ha⟩
  refine ⟨⟨I.ex.updR fp, by rw [List.length_append, List.length_append, I.len]; rfl, nd, fun i a m' h1 h2 => ?_, fun i x ns l h => ?_⟩, ⟨pre, nd, Ex.refl _, fun q h1 h2 h3 => absurd h2 h3, fun q u h1 h2 => ?_, fun q h1 h2 => ?_, fun q h => ?_⟩⟩
  · by_cases hi : i < c.io.length
    · have h1' : c.io[i]? = some a := by
        have h1 : (c.io ++ [p])[i]? = some a := h1
        rw [List.getElem?_append_left hi] at h1; exact h1
      have h2' : μ[i]? = some m' := by
        rw [List.getElem?_append_left (by rw [← I.len]; exact hi)] at h2; exact h2
      have nep := ne a (List.mem_of_getElem? h1')
      have k := I.cell i a m' h1' h2'
      cases m' with
      | lst l =>
        obtain ⟨k1, xs, k2, k3⟩ := k
        exact ⟨k1, xs, (upd_ne nep).trans k2, reps.mono pre (Ex.refl _) l k3⟩
      | dct ks l =>
        obtain ⟨k1, xs, k2, k3, k4⟩ := k
        exact ⟨k1, xs, (upd_ne nep).trans k2, k3, reps.mono pre (Ex.refl _) l k4⟩
      | obj x ns l =>
        obtain ⟨k1, dx, fs, k2, k3, k4⟩ := k
        exact ⟨k1, dx, fs, (upd_ne nep).trans k2, k3, reps.mono pre (Ex.refl _) l k4⟩
      | dead =>
        obtain ⟨u, k⟩ := k
        exact ⟨u, (upd_ne nep).trans k⟩
      | dcT ks l =>
        obtain ⟨k1, xs, k2, k3, k4, k5⟩ := k
        exact ⟨k1, xs, (upd_ne nep).trans k2, k3, k4, reps.mono pre (Ex.refl _) l k5⟩
      | lck ks l =>
        obtain ⟨od, u, vs, k1, k2, k3, k4⟩ := k
        exact ⟨od, u, vs, k1, (upd_ne nep).trans k2, k3, reps.mono pre (Ex.refl _) l k4⟩
    · have h1 : (c.io ++ [p])[i]? = some a := h1
      have hl : i < (c.io ++ [p]).length := (List.getElem?_eq_some_iff.mp h1).1
      rw [List.length_append] at hl
      have ei : i = c.io.length := by
        have : [p].length = 1 := rfl
        omega
      have e1 : a = p := by
        rw [ei, List.getElem?_append_right (Nat.le_refl _), Nat.sub_self] at h1
        simpa using h1.symm
      have e2 : m' = m := by
        rw [ei, I.len, List.getElem?_append_right (Nat.le_refl _), Nat.sub_self] at h2
        simpa using h2.symm
      rw [e1, e2]
      exact hm _ pre
  · by_cases hi : i < μ.length
    · rw [List.getElem?_append_left hi] at h
      exact I.cls i x ns l h
    · have hl : i < (μ ++ [m]).length := (List.getElem?_eq_some_iff.mp h).1
      rw [List.length_append] at hl
      have ei : i = μ.length := by
        have : [m].length = 1 := rfl
        omega
      rw [ei, List.getElem?_append_right (Nat.le_refl _), Nat.sub_self] at h
      exact hcl x ns l (by simpa using h)
  · exact Ex.new hp q u h1
  · have : q = p := by
      rcases List.mem_append.mp (show q ∈ c.io ++ [p] from h1) with h | h
      · exact absurd h h2
      · simpa using h
    rw [this]; exact hp
  · by_cases e : q = p
    · rw [e] at h; exact absurd hp h
    · show upd c.H p o q ≠ none
      rw [upd_ne e]; exact h
/-- a cell is changed -/
theorem SI.write {S : Sx} {c : Cf} {μ : List M} (I : SI S c μ) {i : Nat} {p : Addr} {o : HO} {m : M} (hi : c.io[i]? = some p) (fp : c.F p = none)
    (hm : cellOk S ⟨c.io, c.F, upd c.H p o⟩ p m) (hcl : ∀ (x : Str) (ns : List Str) (l : List D), m = .obj x ns l → x ∈ S.cls := by intro _ _ _ e; cases e) : SI S ⟨c.io, c.F, upd c.H p o⟩ (μ.set i m) ∧ Step S c ⟨c.io, c.F, upd c.H p o⟩ := by
  refine ⟨⟨I.ex.updR fp, by rw [List.length_set]; exact I.len, I.nd, fun j a m' h1 h2 => ?_, fun j x ns l h => ?_⟩, ⟨List.prefix_refl _, I.nd, Ex.refl _, fun q h1 h2 h3 => absurd h2 h3, fun q u h1 h2 => ?_, fun q h1 h2 => absurd h1 h2, fun q h => ?_⟩⟩
  · by_cases e : j = i
    · subst e
      have ea : a = p := by
        have h1 : c.io[j]? = some a := h1
        rw [hi] at h1; exact (Option.some.inj h1).symm
      have hl : j < μ.length := by rw [← I.len]; exact (List.getElem?_eq_some_iff.mp hi).1
      rw [List.getElem?_set_self hl] at h2
      rw [ea, ← Option.some.inj h2]; exact hm
    · rw [List.getElem?_set_ne (Ne.symm e)] at h2
      have nep : a ≠ p := fun z => by
        subst z
        exact e (nodup_at I.nd h1 hi)
      have k := I.cell j a m' h1 h2
      cases m' with
      | lst l =>
        obtain ⟨k1, xs, k2, k3⟩ := k
        exact ⟨k1, xs, (upd_ne nep).trans k2, k3⟩
      | dct ks l =>
        obtain ⟨k1, xs, k2, k3, k4⟩ := k
        exact ⟨k1, xs, (upd_ne nep).trans k2, k3, k4⟩
      | obj x ns l =>
        obtain ⟨k1, dx, fs, k2, k3, k4⟩ := k
        exact ⟨k1, dx, fs, (upd_ne nep).trans k2, k3, k4⟩
      | dead =>
        obtain ⟨u, k⟩ := k
        exact ⟨u, (upd_ne nep).trans k⟩
      | dcT ks l =>
        obtain ⟨k1, xs, k2, k3, k4, k5⟩ := k
        exact ⟨k1, xs, (upd_ne nep).trans k2, k3, k4, k5⟩
      | lck ks l =>
        obtain ⟨od, u, vs, k1, k2, k3, k4⟩ := k
        exact ⟨od, u, vs, k1, (upd_ne nep).trans k2, k3, k4⟩
  · by_cases e : j = i
    · subst e
      have hl : j < μ.length := by rw [← I.len]; exact (List.getElem?_eq_some_iff.mp hi).1
      rw [List.getElem?_set_self hl] at h
      exact hcl x ns l (Option.some.inj h)
    · rw [List.getElem?_set_ne (Ne.symm e)] at h
      exact I.cls j x ns l h
  · have ne : q ≠ p := fun z => h2 (by rw [z]; exact List.mem_of_getElem? hi)
    exact (upd_ne ne).trans h1
  · show upd c.H p o q ≠ none
    by_cases e : q = p
    · rw [e, upd_same]; exact fun z => nomatch z
    · rw [upd_ne e]; exact h
end DL
namespace DL
open PySem PySem.Spec PyProof.Rows L2
abbrev St := L2.St
abbrev DS := En → List M → SO
structure EnvOk (S : Sx) (c : Cf) (env : En) (σ : St) : Prop where
  len : env.length = σ.length
  at_ : ∀ (i : Nat) (d : D), env[i]? = some (some d) → ∃ v, σ[i]? = some (some v) ∧ rep S c.io c.F d v
theorem EnvOk.step {S : Sx} {c c' : Cf} {env : En} {σ : St} (s : Step S c c') (h : EnvOk S c env σ) : EnvOk S c' env σ :=
  ⟨h.len, fun i d e => by
    obtain ⟨v, h1, h2⟩ := h.at_ i d e
    exact ⟨v, h1, s.rep h2⟩⟩
theorem EnvOk.set {S : Sx} {c : Cf} {env : En} {σ : St} {d : D} {v : V} (h : EnvOk S c env σ) (r : rep S c.io c.F d v) (i : Nat) : EnvOk S c (env.set i (some d)) (σ.set i (some v)) :=
  ⟨by rw [List.length_set, List.length_set]; exact h.len, fun j e q => by
    by_cases z : j = i
    · subst z
      have hl : j < env.length := by
        have := (List.getElem?_eq_some_iff.mp q).1
        rwa [List.length_set] at this
      rw [List.getElem?_set_self hl] at q
      have : e = d := (Option.some.inj (Option.some.inj q)).symm
      subst this
      exact ⟨v, by rw [List.getElem?_set_self (by rw [← h.len]; exact hl)], r⟩
    · rw [List.getElem?_set_ne (Ne.symm z)] at q
      obtain ⟨u, h1, h2⟩ := h.at_ j e q
      exact ⟨u, by rw [List.getElem?_set_ne (Ne.symm z)]; exact h1, h2⟩⟩
theorem EnvOk.del {S : Sx} {c : Cf} {env : En} {σ : St} (h : EnvOk S c env σ) (i : Nat) : EnvOk S c (env.set i none) (σ.set i none) :=
  ⟨by rw [List.length_set, List.length_set]; exact h.len, fun j e q => by
    by_cases z : j = i
    · subst z
      have hl : j < env.length := by
        have := (List.getElem?_eq_some_iff.mp q).1
        rwa [List.length_set] at this
      rw [List.getElem?_set_self hl] at q
      cases q
    · rw [List.getElem?_set_ne (Ne.symm z)] at q
      obtain ⟨u, h1, h2⟩ := h.at_ j e q
      exact ⟨u, by rw [List.getElem?_set_ne (Ne.symm z)]; exact h1, h2⟩⟩
/-- an exception's own dict -/
def xrep (S : Sx) (c : Cf) (ns : List Str) (l : List D) (dd : Option Addr) : Prop :=
  (ns = [] ∧ l = [] ∧ dd = none) ∨ ∃ a fs, dd = some a ∧ c.F a = some (.xd fs) ∧ fs.map (·.1) = ns ∧ reps S c.io c.F l (fs.map (·.2))
def XQ (S : Sx) (W : WX) (σ : St) (c : Cf) (x : Str) (ns : List Str) (l : List D) (μ : List M) : Prop :=
  ∀ dd c', Step S c c' → SI S c' μ → xrep S c' ns l dd → W (.ref (S.A x)) dd σ c'.H
def EQ (S : Sx) (W : WX) (σ : St) (c : Cf) (Q : VK) : Out D → Prop
  | .ok d μ => ∀ v c', Step S c c' → SI S c' μ → rep S c'.io c'.F d v → Q v c'.H
  | .ex x ns l μ => XQ S W σ c x ns l μ
  | .stuck => False
def TQ (S : Sx) (W : WX) (σ : St) (c : Cf) (Q : Bool → Hp → Prop) : Out Bool → Prop
  | .ok b μ => ∀ c', Step S c c' → SI S c' μ → Q b c'.H
  | .ex x ns l μ => XQ S W σ c x ns l μ
  | .stuck => False
def AQ (S : Sx) (W : WX) (σ : St) (c : Cf) (Q : List V → Hp → Prop) : Out (List D) → Prop
  | .ok l μ => ∀ vs c', Step S c c' → SI S c' μ → reps S c'.io c'.F l vs → Q vs c'.H
  | .ex x ns l μ => XQ S W σ c x ns l μ
  | .stuck => False
def SQ (S : Sx) (W : WX) (c : Cf) (En : Ends) : SO → Prop
  | .nx e μ => ∀ σ' c', Step S c c' → SI S c' μ → EnvOk S c' e σ' → En.nx σ' c'.H
  | .bk e μ => ∀ σ' c', Step S c c' → SI S c' μ → EnvOk S c' e σ' → En.bk σ' c'.H
  | .ct e μ => ∀ σ' c', Step S c c' → SI S c' μ → EnvOk S c' e σ' → En.ct σ' c'.H
  | .rt d μ => ∀ v c', Step S c c' → SI S c' μ → rep S c'.io c'.F d v → En.rt v c'.H
  | .ex x ns l e μ => ∀ dd σ' c', Step S c c' → SI S c' μ → EnvOk S c' e σ' → xrep S c' ns l dd → W (.ref (S.A x)) dd σ' c'.H
  | .stuck => False
section
variable {S : Sx} {W : WX} {σ : St} {c c1 : Cf}
theorem XQ.step {x : Str} {ns : List Str} {l : List D} {μ : List M} (s : Step S c c1) (h : XQ S W σ c x ns l μ) : XQ S W σ c1 x ns l μ := fun dd c' s' => h dd c' (s.trans s')
theorem EQ.step {Q : VK} (s : Step S c c1) : ∀ {o : Out D}, EQ S W σ c Q o → EQ S W σ c1 Q o
  | .ok _ _, h => fun v c' s' => h v c' (s.trans s')
  | .ex _ _ _ _, h => XQ.step s h
  | .stuck, h => h
theorem TQ.step {Q : Bool → Hp → Prop} (s : Step S c c1) : ∀ {o : Out Bool}, TQ S W σ c Q o → TQ S W σ c1 Q o
  | .ok _ _, h => fun c' s' => h c' (s.trans s')
  | .ex _ _ _ _, h => XQ.step s h
  | .stuck, h => h
theorem AQ.step {Q : List V → Hp → Prop} (s : Step S c c1) : ∀ {o : Out (List D)}, AQ S W σ c Q o → AQ S W σ c1 Q o
  | .ok _ _, h => fun v c' s' => h v c' (s.trans s')
  | .ex _ _ _ _, h => XQ.step s h
  | .stuck, h => h
theorem SQ.step {E : Ends} (s : Step S c c1) : ∀ {o : SO}, SQ S W c E o → SQ S W c1 E o
  | .nx _ _, h => fun v c' s' => h v c' (s.trans s')
  | .bk _ _, h => fun v c' s' => h v c' (s.trans s')
  | .ct _ _, h => fun v c' s' => h v c' (s.trans s')
  | .rt _ _, h => fun v c' s' => h v c' (s.trans s')
  | .ex _ _ _ _ _, h => fun d v c' s' => h d v c' (s.trans s')
  | .stuck, h => h
end
structure PDE (X : Cx) (S : Sx) (W : WX) (e : Expr) (d : DE) : Prop where
  ex : ∃ t, PE X e t ∧ ∀ env σ c μ Q, SI S c μ → EnvOk S c env σ → EQ S W σ c Q (d env μ) → t σ c.H Q
structure PDT (X : Cx) (S : Sx) (W : WX) (e : Expr) (d : DT) : Prop where
  ex : ∃ t, PT X e t ∧ ∀ env σ c μ Q, SI S c μ → EnvOk S c env σ → TQ S W σ c Q (d env μ) → t σ c.H Q
structure PDW (X : Cx) (S : Sx) (W : WX) (e : Expr) (d : DT) : Prop where
  ex : ∃ t, PW X e t ∧ ∀ env σ c μ Q, SI S c μ → EnvOk S c env σ → TQ S W σ c Q (d env μ) → t σ c.H Q
structure PDA (X : Cx) (S : Sx) (W : WX) (es : List Expr) (d : DA) : Prop where
  ex : ∃ t, PA X es t ∧ ∀ env σ c μ Q, SI S c μ → EnvOk S c env σ → AQ S W σ c Q (d env μ) → t σ c.H Q
structure PDS (X : Cx) (S : Sx) (W : WX) (st : Stmt) (d : DS) : Prop where
  ex : ∃ t, PS X st t ∧ ∀ env σ c μ E, SI S c μ → EnvOk S c env σ → SQ S W c E (d env μ) → t E σ c.H
structure PDSs (X : Cx) (S : Sx) (W : WX) (st : List Stmt) (d : DS) : Prop where
  ex : ∃ t, PSs X st t ∧ ∀ env σ c μ E, SI S c μ → EnvOk S c env σ → SQ S W c E (d env μ) → t E σ c.H
section
variable {X : Cx} {S : Sx} {W : WX} {a b e : Expr} {es : List Expr} {da db d : DE} {pos : Pos} {k : Nat}
/-! ### the binds -/
theorem bindE {σ : St} {c : Cf} {Q : VK} {t : TE} {R : V → Hp → Prop} {o : Out D} {f : D → List M → Out D}
    (h : ∀ Q, EQ S W σ c Q o → t σ c.H Q) (k : EQ S W σ c Q (o.bind f)) (g : ∀ x μ v c', Step S c c' → SI S c' μ → rep S c'.io c'.F x v → EQ S W σ c' Q (f x μ) → R v c'.H) : t σ c.H R := by
  refine h _ ?_
  cases o with
  | ok x μ => exact fun v c' s I r => g x μ v c' s I r (EQ.step s k)
  | ex x ns l μ => exact k
  | stuck => exact k
theorem bindET {σ : St} {c : Cf} {Q : Bool → Hp → Prop} {t : TE} {R : V → Hp → Prop} {o : Out D} {f : D → List M → Out Bool}
    (h : ∀ Q, EQ S W σ c Q o → t σ c.H Q) (k : TQ S W σ c Q (o.bind f)) (g : ∀ x μ v c', Step S c c' → SI S c' μ → rep S c'.io c'.F x v → TQ S W σ c' Q (f x μ) → R v c'.H) : t σ c.H R := by
  refine h _ ?_
  cases o with
  | ok x μ => exact fun v c' s I r => g x μ v c' s I r (TQ.step s k)
  | ex x ns l μ => exact k
  | stuck => exact k
theorem bindEA {σ : St} {c : Cf} {Q : List V → Hp → Prop} {t : TE} {R : V → Hp → Prop} {o : Out D} {f : D → List M → Out (List D)}
    (h : ∀ Q, EQ S W σ c Q o → t σ c.H Q) (k : AQ S W σ c Q (o.bind f)) (g : ∀ x μ v c', Step S c c' → SI S c' μ → rep S c'.io c'.F x v → AQ S W σ c' Q (f x μ) → R v c'.H) : t σ c.H R := by
  refine h _ ?_
  cases o with
  | ok x μ => exact fun v c' s I r => g x μ v c' s I r (AQ.step s k)
  | ex x ns l μ => exact k
  | stuck => exact k
theorem bindAE {σ : St} {c : Cf} {Q : VK} {t : TA} {R : List V → Hp → Prop} {o : Out (List D)} {f : List D → List M → Out D}
    (h : ∀ Q, AQ S W σ c Q o → t σ c.H Q) (k : EQ S W σ c Q (o.bind f)) (g : ∀ x μ v c', Step S c c' → SI S c' μ → reps S c'.io c'.F x v → EQ S W σ c' Q (f x μ) → R v c'.H) : t σ c.H R := by
  refine h _ ?_
  cases o with
  | ok x μ => exact fun v c' s I r => g x μ v c' s I r (EQ.step s k)
  | ex x ns l μ => exact k
  | stuck => exact k
theorem bindAA {σ : St} {c : Cf} {Q : List V → Hp → Prop} {t : TA} {R : List V → Hp → Prop} {o : Out (List D)} {f : List D → List M → Out (List D)}
    (h : ∀ Q, AQ S W σ c Q o → t σ c.H Q) (k : AQ S W σ c Q (o.bind f)) (g : ∀ x μ v c', Step S c c' → SI S c' μ → reps S c'.io c'.F x v → AQ S W σ c' Q (f x μ) → R v c'.H) : t σ c.H R := by
  refine h _ ?_
  cases o with
  | ok x μ => exact fun v c' s I r => g x μ v c' s I r (AQ.step s k)
  | ex x ns l μ => exact k
  | stuck => exact k
theorem bindTT {σ : St} {c : Cf} {Q : Bool → Hp → Prop} {t : TT} {R : Bool → Hp → Prop} {o : Out Bool} {f : Bool → List M → Out Bool}
    (h : ∀ Q, TQ S W σ c Q o → t σ c.H Q) (k : TQ S W σ c Q (o.bind f)) (g : ∀ x μ c', Step S c c' → SI S c' μ → TQ S W σ c' Q (f x μ) → R x c'.H) : t σ c.H R := by
  refine h _ ?_
  cases o with
  | ok x μ => exact fun c' s I => g x μ c' s I (TQ.step s k)
  | ex x ns l μ => exact k
  | stuck => exact k
theorem bindES {σ : St} {c : Cf} {E : Ends} {env : En} {t : TE} {R : V → Hp → Prop} {o : Out D} {f : D → List M → SO}
    (en : EnvOk S c env σ) (h : ∀ Q, EQ S W σ c Q o → t σ c.H Q) (k : SQ S W c E (o.bindS env f)) (g : ∀ x μ v c', Step S c c' → SI S c' μ → rep S c'.io c'.F x v → SQ S W c' E (f x μ) → R v c'.H) : t σ c.H R := by
  refine h _ ?_
  cases o with
  | ok x μ => exact fun v c' s I r => g x μ v c' s I r (SQ.step s k)
  | ex x ns l μ => exact fun dd c' s I r => k dd σ c' s I (en.step s) r
  | stuck => exact k
theorem bindTS {σ : St} {c : Cf} {E : Ends} {env : En} {t : TT} {R : Bool → Hp → Prop} {o : Out Bool} {f : Bool → List M → SO}
    (en : EnvOk S c env σ) (h : ∀ Q, TQ S W σ c Q o → t σ c.H Q) (k : SQ S W c E (o.bindS env f)) (g : ∀ x μ c', Step S c c' → SI S c' μ → SQ S W c' E (f x μ) → R x c'.H) : t σ c.H R := by
  refine h _ ?_
  cases o with
  | ok x μ => exact fun c' s I => g x μ c' s I (SQ.step s k)
  | ex x ns l μ => exact fun dd c' s I r => k dd σ c' s I (en.step s) r
  | stuck => exact k
/-! ### names, constants -/
def dVar (i : Nat) : DE := fun env μ => match env[i]? with
  | some (some d) => .ok d μ
  | _ => .stuck
theorem of_tC {v : V} {x : D} (h : PE X e (tC v)) (r : ∀ io F, rep S io F x v) : PDE X S W e (dC x) :=
  ⟨_, h, fun env σ c μ Q I en q => q v c I.step I (r _ _)⟩
theorem pd_var {i : Nat} (h : PE X e (tVar i)) : PDE X S W e (dVar i) := by
  refine ⟨_, h, fun env σ c μ Q I en q => ?_⟩
  unfold dVar at q
  cases e1 : env[i]? with
  | none => rw [e1] at q; exact q.elim
  | some o =>
    rw [e1] at q
    cases o with
    | none => exact q.elim
    | some d =>
      obtain ⟨v, h1, h2⟩ := en.at_ i d e1
      exact ⟨v, h1, q v c I.step I h2⟩
theorem pd_int {i : Int} {j : Nat} : PDE X S W (.Constant (.int i) j pos) (dC (.int i)) := of_tC pe_int fun _ _ => by unfold rep; rfl
theorem pd_str {x : Str} {j : Nat} (h : okS x = true := by decide +kernel) : PDE X S W (.Constant (.str x) j pos) (dC (.str x)) := of_tC pe_str fun _ _ => by unfold rep; exact ⟨rfl, h⟩
theorem pd_bl {b : Bool} {j : Nat} : PDE X S W (.Constant (.bool b) j pos) (dC (.bl b)) := of_tC pe_bl fun _ _ => by unfold rep; rfl
theorem pd_non {j : Nat} : PDE X S W (.Constant .none j pos) (dC .non) := of_tC pe_non fun _ _ => by unfold rep; rfl
end
end DL
namespace DL
open PySem PySem.Spec PyProof.Rows L2
/-! ### what is read of a datum -/
def lstOf (μ : List M) : D → Option (List D)
  | .lst l => some l
  | .cel i => match μ[i]? with
    | some (.lst l) => some l
    | _ => none
  | _ => none
def seqOf (μ : List M) : D → Option (List D)
  | .tup l => some l
  | .lst l => some l
  | .cel i => match μ[i]? with
    | some (.lst l) => some l
    | _ => none
  | .scr ns => some (ns.map D.int)
  | _ => none
section
variable {S : Sx} {c : Cf} {μ : List M} {d : D} {v : V} {l : List D}
theorem rep_int {io : List Addr} {F : Hp} {i : Int} : rep S io F (.int i) v ↔ v = .int i := by unfold rep; exact Iff.rfl
theorem rep_bl {io : List Addr} {F : Hp} {i : Bool} : rep S io F (.bl i) v ↔ v = .bl i := by unfold rep; exact Iff.rfl
theorem rep_non {io : List Addr} {F : Hp} : rep S io F .non v ↔ v = .non := by unfold rep; exact Iff.rfl
theorem rep_str {io : List Addr} {F : Hp} {x : Str} : rep S io F (.str x) v ↔ v = .str x ∧ okS x = true := by unfold rep; exact Iff.rfl
theorem rep_ty {io : List Addr} {F : Hp} {x : String} : rep S io F (.ty x) v ↔ v = .ty x := by unfold rep; exact Iff.rfl
theorem rep_glo {io : List Addr} {F : Hp} {x : Str} : rep S io F (.glo x) v ↔ v = .ref (S.A x) := by unfold rep; exact Iff.rfl
theorem reps_ints {io : List Addr} {F : Hp} : ∀ (ns : List Int), reps S io F (ns.map D.int) (ns.map V.int)
  | [] => .nil
  | n :: ns => .cons (rep_int.mpr rfl) (reps_ints ns)
theorem lst_at (I : SI S c μ) (r : rep S c.io c.F d v) (h : lstOf μ d = some l) : ∃ a xs, v = .ref a ∧ c.H a = some (.lst xs) ∧ reps S c.io c.F l xs := by
  cases d with
  | lst l' =>
    unfold rep at r
    obtain ⟨a, xs, h1, h2, h3⟩ := r
    cases (show some l' = some l from h)
    exact ⟨a, xs, h1, I.ex _ _ h2, h3⟩
  | cel i =>
    unfold rep at r
    obtain ⟨a, h1, h2⟩ := r
    dsimp only [lstOf] at h
    cases e : μ[i]? with
    | none => rw [e] at h; cases h
    | some m =>
      rw [e] at h
      cases m with
      | lst l' =>
        cases (show some l' = some l from h)
        obtain ⟨_, xs, k2, k3⟩ := I.cell i a _ h2 e
        exact ⟨a, xs, h1, k2, k3⟩
      | _ => cases h
  | _ => cases h
theorem seq_at (I : SI S c μ) (r : rep S c.io c.F d v) (h : seqOf μ d = some l) : ∃ a xs, v = .ref a ∧ (SqL S.K c.H a xs ∨ SqT S.K c.H a xs) ∧ reps S c.io c.F l xs := by
  cases d with
  | tup l' =>
    unfold rep at r
    obtain ⟨a, xs, h1, h2, h3⟩ := r
    cases (show some l' = some l from h)
    exact ⟨a, xs, h1, Or.inr (ex_t I.ex h2), h3⟩
  | lst l' =>
    obtain ⟨a, xs, h1, h2, h3⟩ := lst_at I r (show lstOf μ (.lst l') = some l from h)
    exact ⟨a, xs, h1, Or.inl (sq_of h2), h3⟩
  | cel i =>
    obtain ⟨a, xs, h1, h2, h3⟩ := lst_at I r (show lstOf μ (.cel i) = some l from h)
    exact ⟨a, xs, h1, Or.inl (sq_of h2), h3⟩
  | scr ns =>
    unfold rep at r
    obtain ⟨a, h1, h2⟩ := r
    cases (show some (ns.map D.int) = some l from h)
    exact ⟨a, _, h1, Or.inl (ex_l I.ex h2), reps_ints ns⟩
  | _ => cases h
/-- a new list, a new tuple -/
theorem new_lst {xs : List V} {Q : VK} {p : Addr} (I : SI S c μ) (r : reps S c.io c.F l xs) (k : ∀ v c', Step S c c' → SI S c' μ → rep S c'.io c'.F (.lst l) v → Q v c'.H) (hp : c.H p = none) : Q (.ref p) (upd c.H p (.lst xs)) := by
  obtain ⟨I', s⟩ := I.fresh (o := .lst xs) hp
  refine k _ _ s I' ?_
  unfold rep
  exact ⟨p, xs, rfl, upd_same, s.reps r⟩
theorem new_tup {xs : List V} {Q : VK} {p : Addr} (I : SI S c μ) (r : reps S c.io c.F l xs) (k : ∀ v c', Step S c c' → SI S c' μ → rep S c'.io c'.F (.tup l) v → Q v c'.H) (hp : c.H p = none) : Q (.ref p) (upd c.H p (.tup xs)) := by
  obtain ⟨I', s⟩ := I.fresh (o := .tup xs) hp
  refine k _ _ s I' ?_
  unfold rep
  exact ⟨p, xs, rfl, st_of upd_same, s.reps r⟩
end
def truth (μ : List M) : D → Option Bool
  | .non => some false
  | .bl b => some b
  | .int i => some (decide (i ≠ 0))
  | .str s => if s.length ≤ 100000 then some (decide (s.length ≠ 0)) else none
  | .tup l => some (!l.isEmpty)
  | .lst l => some (!l.isEmpty)
  | .cel i => match μ[i]? with
    | some (.lst l) => some (!l.isEmpty)
    | _ => none
  | _ => none
theorem sz_of {n : Nat} (h : n ≤ 100000) : n ≤ sizeLine := Nat.le_trans h (by decide)
theorem sz_lt {n : Nat} (h : n < 100000) : n < sizeLine := Nat.lt_of_lt_of_le h (by decide)
theorem isEmpty_reps {S : Sx} {io : List Addr} {F : Hp} : ∀ {l : List D} {xs : List V}, reps S io F l xs → (!l.isEmpty) = !xs.isEmpty
  | [], _, h => by rw [h.eq_nil]; rfl
  | d :: l, _, h => by
    obtain ⟨x, r, rfl, _⟩ := h.uncons
    rfl
theorem tru_at {S : Sx} {c : Cf} {μ : List M} {d : D} {v : V} {b : Bool} (I : SI S c μ) (r : rep S c.io c.F d v) (h : truth μ d = some b) : TruV S.K v c.H b := by
  cases d with
  | non => rw [rep_non.mp r]; exact (Option.some.inj h).symm
  | bl k => rw [rep_bl.mp r]; exact (Option.some.inj h).symm
  | int i =>
    rw [rep_int.mp r, ← (Option.some.inj h : decide (i ≠ 0) = b)]
    show decide (i ≠ 0) = (i != 0)
    rw [Bool.eq_iff_iff]; simp
  | str s =>
    rw [(rep_str.mp r).1]
    dsimp only [truth] at h
    split at h
    · rename_i hs
      rw [← (Option.some.inj h : decide (s.length ≠ 0) = b)]
      refine ⟨sz_of hs, ?_⟩
      rw [Bool.eq_iff_iff]
      simp only [decide_eq_true_eq, bne_iff_ne]
      omega
    · cases h
  | tup l =>
    obtain ⟨a, xs, rfl, h2, h3⟩ := (show ∃ a xs, v = .ref a ∧ SqT S.K c.F a xs ∧ reps S c.io c.F l xs from by unfold rep at r; exact r)
    rw [← (Option.some.inj h : (!l.isEmpty) = b)]
    exact Or.inr (Or.inl ⟨xs, ex_t I.ex h2, isEmpty_reps h3⟩)
  | lst l =>
    obtain ⟨a, xs, rfl, h2, h3⟩ := lst_at I r (show lstOf μ (.lst l) = some l from rfl)
    rw [← (Option.some.inj h : (!l.isEmpty) = b)]
    exact Or.inl ⟨xs, sq_of h2, isEmpty_reps h3⟩
  | cel i =>
    dsimp only [truth] at h
    cases e : μ[i]? with
    | none => rw [e] at h; cases h
    | some m =>
      rw [e] at h
      cases m with
      | lst l =>
        obtain ⟨a, xs, rfl, h2, h3⟩ := lst_at (l := l) I r (by dsimp only [lstOf]; rw [e])
        rw [← (Option.some.inj h : (!l.isEmpty) = b)]
        exact Or.inl ⟨xs, sq_of h2, isEmpty_reps h3⟩
      | _ => cases h
  | _ => cases h
/-! ### operators -/
structure PDO (X : Cx) (S : Sx) (f : Value → Value → Sem Value) (g : List M → D → D → Option D) : Prop where
  ex : ∃ r : R2, OpR X f r ∧ ∀ c μ x y d1 d2 d Q, SI S c μ → rep S c.io c.F d1 x → rep S c.io c.F d2 y → g μ d1 d2 = some d →
    (∀ v c', Step S c c' → SI S c' μ → rep S c'.io c'.F d v → Q v c'.H) → r x y c.H Q
def dOp (g : List M → D → D → Option D) (da db : DE) : DE := fun env μ => (da env μ).bind fun x μ1 => (db env μ1).bind fun y μ2 => match g μ2 x y with
  | some d => .ok d μ2
  | none => .stuck
section
variable {X : Cx} {S : Sx} {W : WX} {a b e : Expr} {es : List Expr} {da db d : DE} {pos : Pos} {k : Nat}
theorem op_run {r : R2} {g : List M → D → D → Option D} {ta tb : TE}
    (hr : ∀ c μ x y d1 d2 d Q, SI S c μ → rep S c.io c.F d1 x → rep S c.io c.F d2 y → g μ d1 d2 = some d → (∀ v c', Step S c c' → SI S c' μ → rep S c'.io c'.F d v → Q v c'.H) → r x y c.H Q)
    (ka : ∀ env σ c μ Q, SI S c μ → EnvOk S c env σ → EQ S W σ c Q (da env μ) → ta σ c.H Q) (kb : ∀ env σ c μ Q, SI S c μ → EnvOk S c env σ → EQ S W σ c Q (db env μ) → tb σ c.H Q) :
    ∀ env σ c μ Q, SI S c μ → EnvOk S c env σ → EQ S W σ c Q (dOp g da db env μ) → tOp r ta tb σ c.H Q := by
  intro env σ c μ Q I en q
  show ta σ c.H fun x H1 => tb σ H1 fun y H2 => r x y H2 Q
  refine bindE (fun Q' => ka env σ c μ Q' I en) q fun x μ1 v c1 s1 I1 r1 q1 => ?_
  refine bindE (fun Q' => kb env σ c1 μ1 Q' I1 (en.step s1)) q1 fun y μ2 u c2 s2 I2 r2 q2 => ?_
  cases e1 : g μ2 x y with
  | none => rw [e1] at q2; exact q2.elim
  | some d =>
    rw [e1] at q2
    exact hr c2 μ2 v u x y d Q I2 (s2.rep r1) r2 e1 q2
theorem pd_op {op : Operator} {g : List M → D → D → Option D} (o : PDO X S (binaryOp op) g) (ha : PDE X S W a da) (hb : PDE X S W b db) : PDE X S W (.BinOp a op b pos) (dOp g da db) := by
  obtain ⟨r, ho, hr⟩ := o.ex
  obtain ⟨ta, pa, ka⟩ := ha.ex
  obtain ⟨tb, pb, kb⟩ := hb.ex
  exact ⟨_, pe_op ho pa pb, op_run hr ka kb⟩
theorem pd_cmp {op : CmpOp} {g : List M → D → D → Option D} (o : PDO X S (compareOp op) g) (ha : PDE X S W a da) (hb : PDE X S W b db) (hm : behindInMarks op b = false) : PDE X S W (.Compare a [op] [b] pos) (dOp g da db) := by
  obtain ⟨r, ho, hr⟩ := o.ex
  obtain ⟨ta, pa, ka⟩ := ha.ex
  obtain ⟨tb, pb, kb⟩ := hb.ex
  exact ⟨_, pe_cmpR ho pa pb hm, op_run hr ka kb⟩
def mulSmall (i j : Int) : Bool := decide (i.natAbs < 9223372036854775808) || (decide (j.natAbs < 9223372036854775808) || decide (i.natAbs.log2 + j.natAbs.log2 < 1000000))
theorem intBits_lt {x : Int} (h : x.natAbs < 9223372036854775808) : Builtin.Int.intBits x ≤ 64 := by
  unfold Builtin.Int.intBits
  by_cases z : x.natAbs = 0
  · simp only [z]; split <;> decide
  · have : x.natAbs.log2 < 63 := (Nat.log2_lt z).mpr h
    split <;> omega
theorem mulSmall_ok {i j : Int} (h : mulSmall i j = true) : IntMulOk i j := by
  unfold mulSmall at h
  rcases Bool.or_eq_true_iff.mp h with h | h
  · exact IntMulOk.of_left (intBits_lt (of_decide_eq_true h))
  · rcases Bool.or_eq_true_iff.mp h with h | h
    · exact IntMulOk.of_right (intBits_lt (of_decide_eq_true h))
    · exact CMulW.ok (show CMulW i j from (of_decide_eq_true h : i.natAbs.log2 + j.natAbs.log2 < 1000000))
theorem op_mulOk {X : Cx} : OpR X (binaryOp .Mult) (rI IntMulOk fun i j => .int (i * j)) := opI fun _ _ _ _ _ _ _ hc q => mul_int q hc
def addSeq (μ : List M) (x y : D) : Option D := match lstOf μ x, lstOf μ y with
  | some l, some l' => if l.length + l'.length ≤ 100000 then some (.lst (l ++ l')) else none
  | _, _ => none
def opAdd (μ : List M) : D → D → Option D
  | .int i, .int j => some (.int (i + j))
  | .str x, .str y => if x.length + y.length ≤ 100000 then some (.str (x ++ y)) else none
  | x, y => addSeq μ x y
def opSub (_ : List M) : D → D → Option D
  | .int i, .int j => some (.int (i - j))
  | _, _ => none
def opMul (_ : List M) : D → D → Option D
  | .int i, .int j => if mulSmall i j then some (.int (i * j)) else none
  | _, _ => none
def opMod (_ : List M) : D → D → Option D
  | .int i, .int j => if 0 < j then some (.int (i % j)) else none
  | _, _ => none
def opDiv (_ : List M) : D → D → Option D
  | .int i, .int j => if 0 < j ∧ j.natAbs.log2 < 9000 then some (.int (i / j)) else none
  | _, _ => none
def opPow (_ : List M) : D → D → Option D
  | .int i, .int j => if 0 ≤ j ∧ j ≤ 1000000 ∧ i.natAbs < 2 ^ 64 then some (.int (i ^ j.toNat)) else none
  | _, _ => none
theorem okS_append {x y : Str} (h : okS x = true) (h' : okS y = true) : okS (x ++ y) = true := by
  unfold okS at *
  show (x.cps ++ y.cps).all _ = true
  rw [Array.all_append, h, h']; rfl
theorem pdo_int {f : Value → Value → Sem Value} {C : Int → Int → Prop} {h : Int → Int → D} {h' : Int → Int → V} {g : List M → D → D → Option D} (o : OpR X f (rI C h'))
    (hg : ∀ μ x y d, g μ x y = some d → ∃ i j, x = .int i ∧ y = .int j ∧ C i j ∧ d = h i j) (hh : ∀ i j io F, rep S io F (h i j) (h' i j)) : PDO X S f g := by
  refine ⟨_, o, fun c μ x y d1 d2 d Q I r1 r2 e k => ?_⟩
  obtain ⟨i, j, rfl, rfl, hc, rfl⟩ := hg μ d1 d2 d e
  exact ⟨i, j, rep_int.mp r1, rep_int.mp r2, hc, k _ c I.step I (hh i j _ _)⟩
theorem pdo_int0 {f : Value → Value → Sem Value} {h : Int → Int → D} {h' : Int → Int → V} {g : List M → D → D → Option D} (o : OpR X f (rI0 h'))
    (hg : ∀ μ x y d, g μ x y = some d → ∃ i j, x = .int i ∧ y = .int j ∧ d = h i j) (hh : ∀ i j io F, rep S io F (h i j) (h' i j)) : PDO X S f g := by
  refine ⟨_, o, fun c μ x y d1 d2 d Q I r1 r2 e k => ?_⟩
  obtain ⟨i, j, rfl, rfl, rfl⟩ := hg μ d1 d2 d e
  exact ⟨i, j, rep_int.mp r1, rep_int.mp r2, k _ c I.step I (hh i j _ _)⟩
theorem po_sub : PDO X S (binaryOp .Sub) opSub := pdo_int0 (h := fun i j => .int (i - j)) op_sub (fun μ x y d e => by
  unfold opSub at e
  split at e
  · exact ⟨_, _, rfl, rfl, (Option.some.inj e).symm⟩
  · cases e) fun _ _ _ _ => rep_int.mpr rfl
theorem po_mul : PDO X S (binaryOp .Mult) opMul := pdo_int (h := fun i j => .int (i * j)) op_mulOk (fun μ x y d e => by
  unfold opMul at e
  split at e
  · split at e
    · rename_i hm
      exact ⟨_, _, rfl, rfl, mulSmall_ok hm, (Option.some.inj e).symm⟩
    · cases e
  · cases e) fun _ _ _ _ => rep_int.mpr rfl
theorem po_div : PDO X S (binaryOp .FloorDiv) opDiv := pdo_int (h := fun i j => .int (i / j)) op_fdivW (fun μ x y d e => by
  unfold opDiv at e
  split at e
  · split at e
    · rename_i hm
      exact ⟨_, _, rfl, rfl, hm, (Option.some.inj e).symm⟩
    · cases e
  · cases e) fun _ _ _ _ => rep_int.mpr rfl
theorem po_pow : PDO X S (binaryOp .Pow) opPow := pdo_int (h := fun i j => .int (i ^ j.toNat)) op_pow (fun μ x y d e => by
  unfold opPow at e
  split at e
  · split at e
    · rename_i hm
      exact ⟨_, _, rfl, rfl, hm, (Option.some.inj e).symm⟩
    · cases e
  · cases e) fun _ _ _ _ => rep_int.mpr rfl
theorem po_mod : PDO X S (binaryOp .Mod) opMod := by
  refine ⟨_, op_modN, fun c μ x y d1 d2 d Q I r1 r2 e k => ?_⟩
  unfold opMod at e
  split at e
  · rename_i i j
    split at e
    · rename_i hj
      obtain rfl := Option.some.inj e
      refine ⟨i, j, rep_int.mp r1, rep_int.mp r2, by omega, ?_⟩
      show Q (.int (i.fmod j)) c.H
      rw [Int.fmod_eq_emod_of_nonneg _ (Int.le_of_lt hj)]
      exact k _ c I.step I (rep_int.mpr rfl)
    · cases e
  · cases e
theorem po_add : PDO X S (binaryOp .Add) opAdd := by
  refine ⟨fun x y H Q => (rI0 fun i j => .int (i + j)) x y H Q ∨ (∃ i j, x = V.str i ∧ y = V.str j ∧ i.length + j.length ≤ sizeLine ∧ Q (.str (i ++ j)) H) ∨ rCat x y H Q, ?_, ?_⟩
  · intro pins s σ H x y v u Q I rx ry h
    rcases h with h | h | h
    · exact op_add pins s σ H x y v u Q I rx ry h
    · exact op_add_str pins s σ H x y v u Q I rx ry h
    · exact op_cat pins s σ H x y v u Q I rx ry h
  · intro c μ x y d1 d2 d Q I r1 r2 e k
    have sq : addSeq μ d1 d2 = some d → rCat x y c.H Q := fun e => by
      unfold addSeq at e
      split at e
      · rename_i l l' h1 h2
        split at e
        · rename_i hl
          obtain rfl := Option.some.inj e
          obtain ⟨p, xs, rfl, k1, k2⟩ := lst_at I r1 h1
          obtain ⟨q, ys, rfl, k3, k4⟩ := lst_at I r2 h2
          exact ⟨p, q, xs, ys, rfl, rfl, k1, k3, by rw [← k2.len, ← k4.len]; exact sz_of hl, fun z hz => new_lst I (k2.append k4) k hz⟩
        · cases e
      · cases e
    unfold opAdd at e
    split at e
    · obtain rfl := Option.some.inj e
      exact Or.inl ⟨_, _, rep_int.mp r1, rep_int.mp r2, k _ c I.step I (rep_int.mpr rfl)⟩
    · split at e
      · rename_i hl
        obtain rfl := Option.some.inj e
        exact Or.inr (Or.inl ⟨_, _, (rep_str.mp r1).1, (rep_str.mp r2).1, sz_of hl, k _ c I.step I (rep_str.mpr ⟨rfl, okS_append (rep_str.mp r1).2 (rep_str.mp r2).2⟩)⟩)
      · cases e
    · exact Or.inr (Or.inr (sq e))
end
end DL
namespace DL
open PySem PySem.Spec PyProof.Rows L2
/-! ### equality of plain data -/
mutual
def plain : D → Bool
  | .non => true | .bl _ => true | .int _ => true | .str _ => true
  | .tup l => plains l | .lst l => plains l
  | _ => false
def plains : List D → Bool
  | [] => true
  | d :: l => plain d && plains l
end
mutual
def dep : D → Nat
  | .tup l => deps l + 1 | .lst l => deps l + 1
  | _ => 0
def deps : List D → Nat
  | [] => 0
  | d :: l => max (dep d) (deps l)
end
mutual
def py : D → PyData
  | .non => .none | .bl b => .bool b | .int i => .int i | .str s => .str s
  | .tup l => .tuple (pys l) | .lst l => .list (pys l)
  | _ => .none
def pys : List D → List PyData
  | [] => []
  | d :: l => py d :: pys l
end
mutual
def eqB : D → D → Bool
  | .non, .non => true
  | .bl a, .bl b => a == b
  | .bl a, .int j => (if a then 1 else 0) == j
  | .int i, .bl b => i == (if b then 1 else 0)
  | .int i, .int j => i == j
  | .str x, .str y => x == y
  | .tup l, .tup l' => eqBs l l'
  | .lst l, .lst l' => eqBs l l'
  | _, _ => false
def eqBs : List D → List D → Bool
  | [], [] => true
  | d :: l, d' :: l' => eqB d d' && eqBs l l'
  | _, _ => false
end
mutual
theorem eqB_py : ∀ (x y : D), plain x = true → plain y = true → eqB x y = PyData.eqv (py x) (py y)
  | .tup l, y, hx, hy => by
    cases y with
    | tup l' => unfold plain at hx hy; unfold eqB py PyData.eqv; exact eqBs_py l l' hx hy
    | _ => first | (unfold plain at hy; cases hy; done) | (simp [eqB, py, PyData.eqv]; done)
  | .lst l, y, hx, hy => by
    cases y with
    | lst l' => unfold plain at hx hy; unfold eqB py PyData.eqv; exact eqBs_py l l' hx hy
    | _ => first | (unfold plain at hy; cases hy; done) | (simp [eqB, py, PyData.eqv]; done)
  | .non, y, _, hy => by cases y <;> first | (unfold plain at hy; cases hy; done) | (simp [eqB, py, PyData.eqv]; done)
  | .bl b, y, _, hy => by cases y <;> first | (unfold plain at hy; cases hy; done) | (simp [eqB, py, PyData.eqv]; done)
  | .int i, y, _, hy => by cases y <;> first | (unfold plain at hy; cases hy; done) | (simp [eqB, py, PyData.eqv]; done)
  | .str s, y, _, hy => by cases y <;> first | (unfold plain at hy; cases hy; done) | (simp [eqB, py, PyData.eqv]; done)
  | .ty _, _, hx, _ => by unfold plain at hx; cases hx
  | .glo _, _, hx, _ => by unfold plain at hx; cases hx
  | .dct _ _, _, hx, _ => by unfold plain at hx; cases hx
  | .obj _ _ _, _, hx, _ => by unfold plain at hx; cases hx
  | .cel _, _, hx, _ => by unfold plain at hx; cases hx
  | .scr _, _, hx, _ => by unfold plain at hx; cases hx
  | .exc _ _ _, _, hx, _ => by unfold plain at hx; cases hx
  | .txt, _, hx, _ => by unfold plain at hx; cases hx
theorem eqBs_py : ∀ (l l' : List D), plains l = true → plains l' = true → eqBs l l' = PyData.eqvAll (pys l) (pys l')
  | [], [], _, _ => by simp [eqBs, pys, PyData.eqvAll]
  | [], _ :: _, _, _ => by simp [eqBs, pys, PyData.eqvAll]
  | _ :: _, [], _, _ => by simp [eqBs, pys, PyData.eqvAll]
  | d :: l, d' :: l', h, h' => by
    unfold plains at h h'
    have h1 := Bool.and_eq_true_iff.mp h
    have h2 := Bool.and_eq_true_iff.mp h'
    unfold eqBs pys PyData.eqvAll
    rw [eqB_py d d' h1.1 h2.1, eqBs_py l l' h1.2 h2.2]
end
mutual
theorem dep_py : ∀ x : D, (py x).depth = dep x
  | .tup l => by unfold py dep; rw [PyData.depth, deps_py l]
  | .lst l => by unfold py dep; rw [PyData.depth, deps_py l]
  | .non => by simp [py, dep, PyData.depth]
  | .bl _ => by simp [py, dep, PyData.depth]
  | .int _ => by simp [py, dep, PyData.depth]
  | .str _ => by simp [py, dep, PyData.depth]
  | .ty _ => by simp [py, dep, PyData.depth]
  | .glo _ => by simp [py, dep, PyData.depth]
  | .dct _ _ => by simp [py, dep, PyData.depth]
  | .obj _ _ _ => by simp [py, dep, PyData.depth]
  | .cel _ => by simp [py, dep, PyData.depth]
  | .scr _ => by simp [py, dep, PyData.depth]
  | .exc _ _ _ => by simp [py, dep, PyData.depth]
  | .txt => by simp [py, dep, PyData.depth]
theorem deps_py : ∀ l : List D, PyData.depthAll (pys l) = deps l
  | [] => by simp [pys, deps, PyData.depthAll]
  | d :: l => by unfold pys deps; rw [PyData.depthAll, dep_py d, deps_py l]
end
section
variable {S : Sx} {io : List Addr} {F H : Hp}
mutual
theorem rep_lay : ∀ (d : D) {v : V}, rep S io F d v → plain d = true → (py d).canLay0 = true
  | .tup l, _, r, p => by
    unfold rep at r; unfold plain at p; unfold py
    obtain ⟨_, _, _, _, r3⟩ := r
    rw [PyData.canLay0]; exact reps_lay l r3 p
  | .lst l, _, r, p => by
    unfold rep at r; unfold plain at p; unfold py
    obtain ⟨_, _, _, _, r3⟩ := r
    rw [PyData.canLay0]; exact reps_lay l r3 p
  | .non, _, _, _ => by simp [py, PyData.canLay0]
  | .bl _, _, _, _ => by simp [py, PyData.canLay0]
  | .int _, _, _, _ => by simp [py, PyData.canLay0]
  | .str s, _, r, _ => by
    unfold py; rw [PyData.canLay0]
    exact (rep_str.mp r).2
  | .ty _, _, _, hx => by unfold plain at hx; cases hx
  | .glo _, _, _, hx => by unfold plain at hx; cases hx
  | .dct _ _, _, _, hx => by unfold plain at hx; cases hx
  | .obj _ _ _, _, _, hx => by unfold plain at hx; cases hx
  | .cel _, _, _, hx => by unfold plain at hx; cases hx
  | .scr _, _, _, hx => by unfold plain at hx; cases hx
  | .exc _ _ _, _, _, hx => by unfold plain at hx; cases hx
  | .txt, _, _, hx => by unfold plain at hx; cases hx
theorem reps_lay : ∀ (l : List D) {xs : List V}, reps S io F l xs → plains l = true → PyData.canLayAll0 (pys l) = true
  | [], _, _, _ => by simp [pys, PyData.canLayAll0]
  | d :: l, _, r, p => by
    obtain ⟨x, q, rfl, r1, r2⟩ := r.uncons
    unfold plains at p
    have p1 := Bool.and_eq_true_iff.mp p
    unfold pys
    rw [PyData.canLayAll0, rep_lay d r1 p1.1, reps_lay l r2 p1.2]; rfl
end
mutual
theorem rep_dp (e : Ex F H) : ∀ (d : D) {v : V}, rep S io F d v → plain d = true → Dp S.K H v (py d)
  | .tup l, _, r, p => by
    unfold rep at r; unfold plain at p; unfold py
    obtain ⟨a, xs, rfl, r2, r3⟩ := r
    exact .tup (ex_t e r2) (reps_dp e l r3 p)
  | .lst l, _, r, p => by
    unfold rep at r; unfold plain at p; unfold py
    obtain ⟨a, xs, rfl, r2, r3⟩ := r
    exact .lst (sq_of (e _ _ r2)) (reps_dp e l r3 p)
  | .non, _, r, _ => by rw [rep_non.mp r]; unfold py; exact .non
  | .bl _, _, r, _ => by rw [rep_bl.mp r]; unfold py; exact .bl _
  | .int _, _, r, _ => by rw [rep_int.mp r]; unfold py; exact .int _
  | .str s, _, r, _ => by rw [(rep_str.mp r).1]; unfold py; exact .str _
  | .ty _, _, _, hx => by unfold plain at hx; cases hx
  | .glo _, _, _, hx => by unfold plain at hx; cases hx
  | .dct _ _, _, _, hx => by unfold plain at hx; cases hx
  | .obj _ _ _, _, _, hx => by unfold plain at hx; cases hx
  | .cel _, _, _, hx => by unfold plain at hx; cases hx
  | .scr _, _, _, hx => by unfold plain at hx; cases hx
  | .exc _ _ _, _, _, hx => by unfold plain at hx; cases hx
  | .txt, _, _, hx => by unfold plain at hx; cases hx
theorem reps_dp (e : Ex F H) : ∀ (l : List D) {xs : List V}, reps S io F l xs → plains l = true → DpAll S.K H xs (pys l)
  | [], _, r, _ => by rw [r.eq_nil]; unfold pys; exact .nil
  | d :: l, _, r, p => by
    obtain ⟨x, q, rfl, r1, r2⟩ := r.uncons
    unfold plains at p
    have p1 := Bool.and_eq_true_iff.mp p
    unfold pys
    exact .cons (rep_dp e d r1 p1.1) (reps_dp e l r2 p1.2)
end
end
/-- a cell's list as it stands -/
def now (μ : List M) : D → D
  | .cel i => match μ[i]? with
    | some (.lst l) => .lst l
    | _ => .cel i
  | d => d
theorem dp_at {S : Sx} {c : Cf} {μ : List M} {d : D} {v : V} (I : SI S c μ) (r : rep S c.io c.F d v) (p : plain (now μ d) = true) : Dp S.K c.H v (py (now μ d)) ∧ (py (now μ d)).canLay0 = true := by
  have same : now μ d = d → Dp S.K c.H v (py (now μ d)) ∧ (py (now μ d)).canLay0 = true := fun e => by
    rw [e] at p ⊢
    exact ⟨rep_dp I.ex d r p, rep_lay d r p⟩
  cases d with
  | cel i =>
    cases e : μ[i]? with
    | none => exact same (by dsimp only [now]; rw [e])
    | some m =>
      cases m with
      | lst l =>
        have en : now μ (.cel i) = .lst l := by dsimp only [now]; rw [e]
        rw [en] at p ⊢
        obtain ⟨a, xs, rfl, h2, h3⟩ := lst_at (l := l) I r (by dsimp only [lstOf]; rw [e])
        unfold plain at p; unfold py
        refine ⟨.lst (sq_of h2) (reps_dp I.ex l h3 p), ?_⟩
        rw [PyData.canLay0]; exact reps_lay l h3 p
      | _ => exact same (by dsimp only [now]; rw [e])
  | _ => exact same rfl
def eqOk (x y : D) : Bool := plain x && (plain y && (decide (dep x ≤ 64) && decide (dep y ≤ 64)))
def opEq (μ : List M) (x y : D) : Option D := if eqOk (now μ x) (now μ y) then some (.bl (eqB (now μ x) (now μ y))) else none
def opNe (μ : List M) (x y : D) : Option D := if eqOk (now μ x) (now μ y) then some (.bl (!eqB (now μ x) (now μ y))) else none
section
variable {X : Cx} {S : Sx} {W : WX} {a b e : Expr} {es : List Expr} {da db d : DE} {pos : Pos} {k : Nat}
theorem eq_parts {c : Cf} {μ : List M} {x y : V} {d1 d2 : D} (I : SI S c μ) (r1 : rep S c.io c.F d1 x) (r2 : rep S c.io c.F d2 y) (h : eqOk (now μ d1) (now μ d2) = true) :
    ∃ d e, Dp S.K c.H x d ∧ Dp S.K c.H y e ∧ SeqAt.shaped d = true ∧ SeqAt.shaped e = true ∧ PyData.eqv d e = eqB (now μ d1) (now μ d2) := by
  obtain ⟨h1, h⟩ := Bool.and_eq_true_iff.mp h
  obtain ⟨h2, h⟩ := Bool.and_eq_true_iff.mp h
  obtain ⟨h3, h4⟩ := Bool.and_eq_true_iff.mp h
  obtain ⟨k1, k2⟩ := dp_at I r1 h1
  obtain ⟨k3, k4⟩ := dp_at I r2 h2
  refine ⟨_, _, k1, k3, Bool.and_eq_true_iff.mpr ⟨k2, ?_⟩, Bool.and_eq_true_iff.mpr ⟨k4, ?_⟩, (eqB_py _ _ h1 h2).symm⟩
  · rw [dep_py]; exact h3
  · rw [dep_py]; exact h4
theorem po_eq (hK : X.K = S.K) (hu : X.A.units + 64 < cLine) : PDO X S (compareOp .Eq) opEq := by
  refine ⟨_, op_eqD hu, fun c μ x y d1 d2 d Q I r1 r2 e k => ?_⟩
  unfold opEq at e
  split at e
  · rename_i h
    obtain rfl := Option.some.inj e
    obtain ⟨p, q, k1, k2, k3, k4, k5⟩ := eq_parts I r1 r2 h
    refine ⟨p, q, by rw [hK]; exact k1, by rw [hK]; exact k2, k3, k4, ?_⟩
    rw [k5]
    exact k _ c I.step I (rep_bl.mpr rfl)
  · cases e
theorem po_ne (hK : X.K = S.K) (hu : X.A.units + 64 < cLine) : PDO X S (compareOp .NotEq) opNe := by
  refine ⟨_, op_neD hu, fun c μ x y d1 d2 d Q I r1 r2 e k => ?_⟩
  unfold opNe at e
  split at e
  · rename_i h
    obtain rfl := Option.some.inj e
    obtain ⟨p, q, k1, k2, k3, k4, k5⟩ := eq_parts I r1 r2 h
    refine ⟨p, q, by rw [hK]; exact k1, by rw [hK]; exact k2, k3, k4, ?_⟩
    rw [k5]
    exact k _ c I.step I (rep_bl.mpr rfl)
  · cases e
/-! ### order -/
def ltL (x y : Str) : Bool := decide (x.cps.toList < y.cps.toList)
def opLt (_ : List M) : D → D → Option D
  | .int i, .int j => some (.bl (decide (i < j)))
  | .str x, .str y => some (.bl (ltL x y))
  | _, _ => none
def opLe (_ : List M) : D → D → Option D
  | .int i, .int j => some (.bl (decide (i ≤ j)))
  | .str x, .str y => some (.bl (!ltL y x))
  | _, _ => none
def opGt (_ : List M) : D → D → Option D
  | .int i, .int j => some (.bl (decide (j < i)))
  | .str x, .str y => some (.bl (ltL y x))
  | _, _ => none
def opGe (_ : List M) : D → D → Option D
  | .int i, .int j => some (.bl (decide (j ≤ i)))
  | .str x, .str y => some (.bl (!ltL x y))
  | _, _ => none
theorem or_op {f : Value → Value → Sem Value} {r r' : R2} (h : OpR X f r) (h' : OpR X f r') : OpR X f (fun x y H Q => r x y H Q ∨ r' x y H Q) := by
  intro pins s σ H x y v u Q I rx ry q
  rcases q with q | q
  · exact h pins s σ H x y v u Q I rx ry q
  · exact h' pins s σ H x y v u Q I rx ry q
theorem po_lt : PDO X S (compareOp .Lt) opLt := by
  refine ⟨_, or_op op_lt op_lt_str, fun c μ x y d1 d2 d Q I r1 r2 e k => ?_⟩
  unfold opLt at e
  split at e
  · obtain rfl := Option.some.inj e
    exact Or.inl ⟨_, _, rep_int.mp r1, rep_int.mp r2, k _ c I.step I (rep_bl.mpr rfl)⟩
  · obtain rfl := Option.some.inj e
    exact Or.inr ⟨_, _, (rep_str.mp r1).1, (rep_str.mp r2).1, k _ c I.step I (rep_bl.mpr rfl)⟩
  · cases e
theorem po_le : PDO X S (compareOp .LtE) opLe := by
  refine ⟨_, or_op op_le op_le_str, fun c μ x y d1 d2 d Q I r1 r2 e k => ?_⟩
  unfold opLe at e
  split at e
  · obtain rfl := Option.some.inj e
    exact Or.inl ⟨_, _, rep_int.mp r1, rep_int.mp r2, k _ c I.step I (rep_bl.mpr rfl)⟩
  · obtain rfl := Option.some.inj e
    exact Or.inr ⟨_, _, (rep_str.mp r1).1, (rep_str.mp r2).1, k _ c I.step I (rep_bl.mpr rfl)⟩
  · cases e
theorem po_ge : PDO X S (compareOp .GtE) opGe := by
  refine ⟨_, or_op op_ge op_ge_str, fun c μ x y d1 d2 d Q I r1 r2 e k => ?_⟩
  unfold opGe at e
  split at e
  · obtain rfl := Option.some.inj e
    exact Or.inl ⟨_, _, rep_int.mp r1, rep_int.mp r2, k _ c I.step I (rep_bl.mpr rfl)⟩
  · obtain rfl := Option.some.inj e
    exact Or.inr ⟨_, _, (rep_str.mp r1).1, (rep_str.mp r2).1, k _ c I.step I (rep_bl.mpr rfl)⟩
  · cases e
/-! ### is None -/
def isNn : D → Bool
  | .non => true
  | _ => false
theorem isNon_at {io : List Addr} {F : Hp} {d : D} {v : V} (r : rep S io F d v) : decide (v = .non) = isNn d := by
  cases d <;> first
    | (rw [rep_non.mp r]; rfl)
    | (rw [rep_bl.mp r]; rfl)
    | (rw [rep_int.mp r]; rfl)
    | (rw [(rep_str.mp r).1]; rfl)
    | (rw [rep_ty.mp r]; rfl)
    | (rw [rep_glo.mp r]; rfl)
    | (unfold rep at r; obtain ⟨a, _, rfl, _⟩ := r; rfl)
    | (unfold rep at r; obtain ⟨a, _, _, rfl, _⟩ := r; rfl)
    | (unfold rep at r; obtain ⟨a, rfl, _⟩ := r; rfl)
def opIs (_ : List M) : D → D → Option D
  | x, .non => some (.bl (isNn x))
  | _, _ => none
def opIsN (_ : List M) : D → D → Option D
  | x, .non => some (.bl (!isNn x))
  | _, _ => none
theorem po_is : PDO X S (compareOp .Is) opIs := by
  refine ⟨_, op_isN, fun c μ x y d1 d2 d Q I r1 r2 e k => ?_⟩
  unfold opIs at e
  split at e
  · obtain rfl := Option.some.inj e
    refine ⟨rep_non.mp r2, ?_⟩
    rw [isNon_at r1]
    exact k _ c I.step I (rep_bl.mpr rfl)
  · cases e
theorem po_isN : PDO X S (compareOp .IsNot) opIsN := by
  refine ⟨_, op_notN, fun c μ x y d1 d2 d Q I r1 r2 e k => ?_⟩
  unfold opIsN at e
  split at e
  · obtain rfl := Option.some.inj e
    refine ⟨rep_non.mp r2, ?_⟩
    rw [isNon_at r1]
    exact k _ c I.step I (rep_bl.mpr rfl)
  · cases e
/-! ### and, or, not as values; as tests -/
def dOr (da db : DE) : DE := fun env μ => (da env μ).bind fun x μ1 => match truth μ1 x with
  | some true => .ok x μ1
  | some false => db env μ1
  | none => .stuck
def dAnd (da db : DE) : DE := fun env μ => (da env μ).bind fun x μ1 => match truth μ1 x with
  | some true => db env μ1
  | some false => .ok x μ1
  | none => .stuck
def dNot (da : DE) : DE := fun env μ => (da env μ).bind fun x μ1 => match truth μ1 x with
  | some b => .ok (.bl (!b)) μ1
  | none => .stuck
theorem pd_or {rest : List Expr} (hK : X.K = S.K) (ha : PDE X S W a da) (hb : PDE X S W (.BoolOp .Or (b :: rest) pos) db) : PDE X S W (.BoolOp .Or (a :: b :: rest) pos) (dOr da db) := by
  obtain ⟨ta, pa, ka⟩ := ha.ex
  obtain ⟨tb, pb, kb⟩ := hb.ex
  refine ⟨_, pe_orT pa pb, fun env σ c μ Q I en q => ?_⟩
  show ta σ c.H fun x H1 => ∃ k, TruV X.K x H1 k ∧ if k = true then Q x H1 else tb σ H1 Q
  refine bindE (fun Q' => ka env σ c μ Q' I en) q fun x μ1 v c1 s1 I1 r1 q1 => ?_
  cases e1 : truth μ1 x with
  | none => rw [e1] at q1; exact q1.elim
  | some k =>
    rw [e1] at q1
    refine ⟨k, by rw [hK]; exact tru_at I1 r1 e1, ?_⟩
    cases k with
    | true => exact iteT (q1 v c1 I1.step I1 r1)
    | false => exact iteF (kb env σ c1 μ1 Q I1 (en.step s1) q1)
theorem pd_and {rest : List Expr} (hK : X.K = S.K) (ha : PDE X S W a da) (hb : PDE X S W (.BoolOp .And (b :: rest) pos) db) : PDE X S W (.BoolOp .And (a :: b :: rest) pos) (dAnd da db) := by
  obtain ⟨ta, pa, ka⟩ := ha.ex
  obtain ⟨tb, pb, kb⟩ := hb.ex
  refine ⟨_, pe_andT pa pb, fun env σ c μ Q I en q => ?_⟩
  show ta σ c.H fun x H1 => ∃ k, TruV X.K x H1 k ∧ if k = true then tb σ H1 Q else Q x H1
  refine bindE (fun Q' => ka env σ c μ Q' I en) q fun x μ1 v c1 s1 I1 r1 q1 => ?_
  cases e1 : truth μ1 x with
  | none => rw [e1] at q1; exact q1.elim
  | some k =>
    rw [e1] at q1
    refine ⟨k, by rw [hK]; exact tru_at I1 r1 e1, ?_⟩
    cases k with
    | true => exact iteT (kb env σ c1 μ1 Q I1 (en.step s1) q1)
    | false => exact iteF (q1 v c1 I1.step I1 r1)
theorem pd_one {op : BoolOp} (ha : PDE X S W a da) : PDE X S W (.BoolOp op [a] pos) da := by
  obtain ⟨ta, pa, ka⟩ := ha.ex
  exact ⟨_, pe_one pa, ka⟩
theorem pd_not (hK : X.K = S.K) (ha : PDE X S W a da) : PDE X S W (.UnaryOp .Not a pos) (dNot da) := by
  obtain ⟨ta, pa, ka⟩ := ha.ex
  refine ⟨_, pe_notT pa, fun env σ c μ Q I en q => ?_⟩
  show ta σ c.H fun x H1 => ∃ k, TruV X.K x H1 k ∧ Q (.bl (!k)) H1
  refine bindE (fun Q' => ka env σ c μ Q' I en) q fun x μ1 v c1 s1 I1 r1 q1 => ?_
  cases e1 : truth μ1 x with
  | none => rw [e1] at q1; exact q1.elim
  | some k =>
    rw [e1] at q1
    exact ⟨k, by rw [hK]; exact tru_at I1 r1 e1, q1 _ c1 I1.step I1 (rep_bl.mpr rfl)⟩
def opNeg (_ : List M) : D → Option D
  | .int i => some (.int (-i))
  | _ => none
def dNeg (da : DE) : DE := fun env μ => (da env μ).bind fun x μ1 => match x with
  | .int i => .ok (.int (-i)) μ1
  | _ => .stuck
theorem pd_neg (ha : PDE X S W a da) : PDE X S W (.UnaryOp .USub a pos) (dNeg da) := by
  obtain ⟨ta, pa, ka⟩ := ha.ex
  refine ⟨_, pe_un un_neg pa, fun env σ c μ Q I en q => ?_⟩
  show ta σ c.H fun x H1 => ∃ i, x = .int i ∧ Q (.int (-i)) H1
  refine bindE (fun Q' => ka env σ c μ Q' I en) q fun x μ1 v c1 s1 I1 r1 q1 => ?_
  cases x with
  | int i => exact ⟨i, rep_int.mp r1, q1 _ c1 I1.step I1 (rep_int.mpr rfl)⟩
  | _ => exact q1.elim
/-- a test that is an expression's truth -/
def dTru (da : DE) : DT := fun env μ => (da env μ).bind fun x μ1 => match truth μ1 x with
  | some b => .ok b μ1
  | none => .stuck
def tAnd2 (a b : DT) : DT := fun env μ => (a env μ).bind fun k μ1 => if k = true then b env μ1 else .ok false μ1
def tOr2 (a b : DT) : DT := fun env μ => (a env μ).bind fun k μ1 => if k = true then .ok true μ1 else b env μ1
def tNot2 (a : DT) : DT := fun env μ => (a env μ).bind fun k μ1 => .ok (!k) μ1
theorem pdt_tru (hK : X.K = S.K) (ha : PDE X S W a da) (he : ∀ whole, isTrue a X.env whole = (do let v ← whole; standAt a.pos; holding [v] (truthy v)) := by intro _; rfl) : PDT X S W a (dTru da) := by
  obtain ⟨ta, pa, ka⟩ := ha.ex
  refine ⟨_, pt_truth pa he, fun env σ c μ Q I en q => ?_⟩
  show ta σ c.H fun x H1 => ∃ k, TruV X.K x H1 k ∧ Q k H1
  refine bindET (fun Q' => ka env σ c μ Q' I en) q fun x μ1 v c1 s1 I1 r1 q1 => ?_
  cases e1 : truth μ1 x with
  | none => rw [e1] at q1; exact q1.elim
  | some k =>
    rw [e1] at q1
    exact ⟨k, by rw [hK]; exact tru_at I1 r1 e1, q1 c1 I1.step I1⟩
/-- a comparison's test -/
def dTst (da : DE) : DT := fun env μ => (da env μ).bind fun x μ1 => match x with
  | .bl b => .ok b μ1
  | _ => .stuck
theorem pdt_cmp {op : CmpOp} {g : List M → D → D → Option D} (o : PDO X S (compareOp op) g) (ha : PDE X S W a da) (hb : PDE X S W b db) (hm : behindInMarks op b = false) : PDT X S W (.Compare a [op] [b] pos) (dTst (dOp g da db)) := by
  obtain ⟨r, ho, hr⟩ := o.ex
  obtain ⟨ta, pa, ka⟩ := ha.ex
  obtain ⟨tb, pb, kb⟩ := hb.ex
  refine ⟨_, pt_cmpR ho pa pb hm, fun env σ c μ Q I en q => ?_⟩
  show tOp r ta tb σ c.H fun x H' => ∃ k, x = .bl k ∧ Q k H'
  refine bindET (fun Q' => op_run hr ka kb env σ c μ Q' I en) q fun x μ1 v c1 s1 I1 r1 q1 => ?_
  cases x with
  | bl k => exact ⟨k, rep_bl.mp r1, q1 c1 I1.step I1⟩
  | _ => exact q1.elim
variable {ta tb : DT}
theorem PDW.pt {t : DT} (h : PDW X S W e t) : PDT X S W e t := by
  obtain ⟨ta, pa, ka⟩ := h.ex
  exact ⟨_, pa.pt, ka⟩
theorem pdw_and1 (ha : PDT X S W a ta) : PDW X S W (.BoolOp .And [a] pos) ta := by
  obtain ⟨t, pa, ka⟩ := ha.ex
  exact ⟨_, pw_and1 pa, ka⟩
theorem pdw_or1 (ha : PDT X S W a ta) : PDW X S W (.BoolOp .Or [a] pos) ta := by
  obtain ⟨t, pa, ka⟩ := ha.ex
  exact ⟨_, pw_or1 pa, ka⟩
theorem pdw_and {rest : List Expr} (ha : PDT X S W a ta) (hb : PDW X S W (.BoolOp .And (b :: rest) pos) tb) : PDW X S W (.BoolOp .And (a :: b :: rest) pos) (tAnd2 ta tb) := by
  obtain ⟨t, pa, ka⟩ := ha.ex
  obtain ⟨u, pb, kb⟩ := hb.ex
  refine ⟨_, pw_and pa pb, fun env σ c μ Q I en q => ?_⟩
  show t σ c.H fun c H1 => if c = true then u σ H1 Q else Q false H1
  refine bindTT (fun Q' => ka env σ c μ Q' I en) q fun k μ1 c1 s1 I1 q1 => ?_
  cases k with
  | true => exact iteT (kb env σ c1 μ1 Q I1 (en.step s1) q1)
  | false => exact iteF (q1 c1 I1.step I1)
theorem pdw_or {rest : List Expr} (ha : PDT X S W a ta) (hb : PDW X S W (.BoolOp .Or (b :: rest) pos) tb) : PDW X S W (.BoolOp .Or (a :: b :: rest) pos) (tOr2 ta tb) := by
  obtain ⟨t, pa, ka⟩ := ha.ex
  obtain ⟨u, pb, kb⟩ := hb.ex
  refine ⟨_, pw_or pa pb, fun env σ c μ Q I en q => ?_⟩
  show t σ c.H fun c H1 => if c = true then Q true H1 else u σ H1 Q
  refine bindTT (fun Q' => ka env σ c μ Q' I en) q fun k μ1 c1 s1 I1 q1 => ?_
  cases k with
  | true => exact iteT (q1 c1 I1.step I1)
  | false => exact iteF (kb env σ c1 μ1 Q I1 (en.step s1) q1)
theorem pdt_not (ha : PDT X S W a ta) : PDT X S W (.UnaryOp .Not a pos) (tNot2 ta) := by
  obtain ⟨t, pa, ka⟩ := ha.ex
  refine ⟨_, pt_not pa, fun env σ c μ Q I en q => ?_⟩
  show t σ c.H fun c H1 => Q (!c) H1
  exact bindTT (fun Q' => ka env σ c μ Q' I en) q fun k μ1 c1 s1 I1 q1 => q1 c1 I1.step I1
def dIfE (t : DT) (da db : DE) : DE := fun env μ => (t env μ).bind fun k μ1 => if k = true then da env μ1 else db env μ1
/-- a < b < c -/
def dChain (g g' : List M → D → D → Option D) (da db dc : DE) : DE := fun env μ => (da env μ).bind fun x μ1 => (db env μ1).bind fun y μ2 => match g μ2 x y with
  | some (.bl k) => if k = true then (dc env μ2).bind fun z μ3 => match g' μ3 y z with
    | some d => .ok d μ3
    | none => .stuck
    else .ok (.bl false) μ2
  | _ => .stuck
end
end DL
namespace DL
open PySem PySem.Spec PyProof.Rows L2
/-! ### the widest readings of a denotation -/
def tE (S : Sx) (W : WX) (d : DE) : TE := fun σ H Q => ∃ env c μ, c.H = H ∧ SI S c μ ∧ EnvOk S c env σ ∧ EQ S W σ c Q (d env μ)
def tT (S : Sx) (W : WX) (d : DT) : TT := fun σ H Q => ∃ env c μ, c.H = H ∧ SI S c μ ∧ EnvOk S c env σ ∧ TQ S W σ c Q (d env μ)
section
variable {X : Cx} {S : Sx} {W : WX} {a b e : Expr} {es : List Expr} {da db d : DE} {dt : DT} {ds : DA} {pos : Pos} {k : Nat}
theorem PDE.pe (h : PDE X S W e d) : PE X e (tE S W d) := by
  obtain ⟨t, p, k⟩ := h.ex
  refine ⟨fun pins s σ H Q I q => ?_⟩
  obtain ⟨env, c, μ, rfl, i, en, q⟩ := q
  exact p.run pins s σ _ Q I (k env σ c μ Q i en q)
theorem PDT.pt (h : PDT X S W e dt) : PT X e (tT S W dt) := by
  obtain ⟨t, p, k⟩ := h.ex
  refine ⟨fun pins s σ H Q I q => ?_⟩
  obtain ⟨env, c, μ, rfl, i, en, q⟩ := q
  exact p.run pins s σ _ Q I (k env σ c μ Q i en q)
/-! ### arguments, displays -/
def aCons (da : DE) (ds : DA) : DA := fun env μ => (da env μ).bind fun x μ1 => (ds env μ1).bind fun l μ2 => .ok (x :: l) μ2
theorem pda_nil : PDA X S W [] aNil := ⟨_, pa_nil, fun env σ c μ Q I en q => q [] c I.step I .nil⟩
theorem pda_cons (ha : PDE X S W e da) (hr : PDA X S W es ds) (hs : starEach (e :: es) X.env = (false, eval e X.env) :: starEach es X.env := by rfl) : PDA X S W (e :: es) (aCons da ds) := by
  obtain ⟨ta, pa, ka⟩ := ha.ex
  obtain ⟨tb, pb, kb⟩ := hr.ex
  refine ⟨_, pa_cons pa pb hs, fun env σ c μ Q I en q => ?_⟩
  show ta σ c.H fun x H1 => tb σ H1 fun xs H2 => Q (x :: xs) H2
  refine bindEA (fun Q' => ka env σ c μ Q' I en) q fun x μ1 v c1 s1 I1 r1 q1 => ?_
  refine bindAA (fun Q' => kb env σ c1 μ1 Q' I1 (en.step s1)) q1 fun l μ2 vs c2 s2 I2 r2 q2 => ?_
  exact q2 _ c2 I2.step I2 (.cons (s2.rep r1) r2)
def dTup (ds : DA) : DE := fun env μ => (ds env μ).bind fun l μ1 => if l.length ≤ 100000 then .ok (.tup l) μ1 else .stuck
def dLst (ds : DA) : DE := fun env μ => (ds env μ).bind fun l μ1 => if l.length ≤ 100000 then .ok (.lst l) μ1 else .stuck
theorem pd_tup (ha : PDA X S W es ds) : PDE X S W (.Tuple es k pos) (dTup ds) := by
  obtain ⟨ta, pa, ka⟩ := ha.ex
  refine ⟨_, pe_tup pa, fun env σ c μ Q I en q => ?_⟩
  show ta σ c.H fun xs H1 => xs.length ≤ sizeLine ∧ ∀ p, H1 p = none → Q (.ref p) (upd H1 p (.tup xs))
  refine bindAE (fun Q' => ka env σ c μ Q' I en) q fun l μ1 vs c1 s1 I1 r1 q1 => ?_
  by_cases h : l.length ≤ 100000
  · rw [if_pos h] at q1
    exact ⟨by rw [← r1.len]; exact sz_of h, fun p hp => new_tup I1 r1 q1 hp⟩
  · rw [if_neg h] at q1; exact q1.elim
theorem pd_lst (ha : PDA X S W es ds) : PDE X S W (.List es pos) (dLst ds) := by
  obtain ⟨ta, pa, ka⟩ := ha.ex
  refine ⟨_, pe_lst pa, fun env σ c μ Q I en q => ?_⟩
  show ta σ c.H fun xs H1 => xs.length ≤ sizeLine ∧ ∀ p, H1 p = none → Q (.ref p) (upd H1 p (.lst xs))
  refine bindAE (fun Q' => ka env σ c μ Q' I en) q fun l μ1 vs c1 s1 I1 r1 q1 => ?_
  by_cases h : l.length ≤ 100000
  · rw [if_pos h] at q1
    exact ⟨by rw [← r1.len]; exact sz_of h, fun p hp => new_lst I1 r1 q1 hp⟩
  · rw [if_neg h] at q1; exact q1.elim
/-! ### subscripts -/
def strAt (z : Str) (i : Int) : Option D := match atI z.cps.toList i with
  | some c => some (.str ⟨#[c]⟩)
  | none => none
def opIx (μ : List M) : D → D → Option D
  | .str z, .int i => if z.length ≤ 100000 then strAt z i else none
  | x, .int i => match seqOf μ x with
    | some l => atI l i
    | none => none
  | _, _ => none
theorem atI_reps {io : List Addr} {F : Hp} {l : List D} {xs : List V} {i : Int} {d : D} (r : reps S io F l xs) (h : atI l i = some d) : ∃ x, atI xs i = some x ∧ rep S io F d x := by
  unfold atI at h ⊢
  rw [← r.len]
  cases e : ixN l.length i with
  | none => rw [e] at h; cases h
  | some j =>
    rw [e] at h
    exact r.get h
theorem okS_at {z : Str} {i : Int} {c : Nat} (h : okS z = true) (e : atI z.cps.toList i = some c) : okS ⟨#[c]⟩ = true := by
  unfold atI at e
  cases q : ixN z.cps.toList.length i with
  | none => rw [q] at e; cases e
  | some j =>
    rw [q] at e
    have m : c ∈ z.cps.toList := List.mem_of_getElem? e
    unfold okS at h ⊢
    rw [← Array.all_toList] at h
    have := List.all_eq_true.mp h c m
    simp only [Array.all_eq_true] 
    intro i hi
    simp at hi
    subst hi
    simpa using this
theorem pd_ix (hK : X.K = S.K) (ha : PDE X S W a da) (hb : PDE X S W b db) (hs : PlainIx b) : PDE X S W (.Subscript a b pos) (dOp opIx da db) := by
  obtain ⟨ta, pa, ka⟩ := ha.ex
  obtain ⟨tb, pb, kb⟩ := hb.ex
  have un : IxR X (fun x y H Q => rIxL X.K x y H Q ∨ rIxT X.K x y H Q ∨ rIxS x y H Q) := by
    intro value slice pins s σ H x y v u Q I rx ry h hs
    rcases h with h | h | h
    · exact ix_list value slice pins s σ H x y v u Q I rx ry h hs
    · exact ix_tup value slice pins s σ H x y v u Q I rx ry h hs
    · exact ix_str value slice pins s σ H x y v u Q I rx ry h hs
  refine ⟨_, pe_ix un pa pb hs, op_run (fun c μ x y d1 d2 d Q I r1 r2 e k => ?_) ka kb⟩
  have sq : ∀ {i : Int}, rep S c.io c.F (.int i) y → (match seqOf μ d1 with
    | some l => atI l i
    | none => none) = some d → rIxL X.K x y c.H Q ∨ rIxT X.K x y c.H Q ∨ rIxS x y c.H Q := fun {i} r2 e => by
    cases e1 : seqOf μ d1 with
    | none => rw [e1] at e; cases e
    | some l =>
      rw [e1] at e
      obtain ⟨p, xs, rfl, h2, h3⟩ := seq_at I r1 e1
      obtain ⟨z, h4, h5⟩ := atI_reps h3 e
      rw [rep_int.mp r2]
      rcases h2 with h2 | h2
      · exact Or.inl ⟨p, xs, i, z, rfl, rfl, by rw [hK]; exact h2, h4, k _ c I.step I h5⟩
      · exact Or.inr (Or.inl ⟨p, xs, i, z, rfl, rfl, by rw [hK]; exact h2, h4, k _ c I.step I h5⟩)
  unfold opIx at e
  split at e
  · rename_i z i
    split at e
    · rename_i hz
      unfold strAt at e
      split at e
      · rename_i cc hc
        obtain rfl := Option.some.inj e
        rw [(rep_str.mp r1).1, rep_int.mp r2]
        exact Or.inr (Or.inr ⟨z, i, cc, rfl, rfl, sz_of hz, hc, k _ c I.step I (rep_str.mpr ⟨rfl, okS_at (rep_str.mp r1).2 hc⟩)⟩)
      · cases e
    · cases e
  · exact sq r2 e
  · cases e
/-! ### slices -/
def cutL {α : Type} (xs : List α) (lo hi : Option Int) : List α := (xs.drop (HT.sIx xs.length 0 lo)).take (HT.sIx xs.length xs.length hi - HT.sIx xs.length 0 lo)
def dNoP : En → List M → Out (Option Int) := fun _ μ => .ok none μ
def dP (d : DE) : En → List M → Out (Option Int) := fun env μ => (d env μ).bind fun x μ1 => match x with
  | .int i => .ok (some i) μ1
  | _ => .stuck
def OQ (S : Sx) (W : WX) (σ : St) (c : Cf) (Q : Option Int → Hp → Prop) : Out (Option Int) → Prop
  | .ok o μ => ∀ c', Step S c c' → SI S c' μ → Q o c'.H
  | .ex x ns l μ => XQ S W σ c x ns l μ
  | .stuck => False
structure PDP (X : Cx) (S : Sx) (W : WX) (e : Option Expr) (d : En → List M → Out (Option Int)) : Prop where
  ex : ∃ t, PO X e t ∧ ∀ env σ c μ Q, SI S c μ → EnvOk S c env σ → OQ S W σ c Q (d env μ) → t σ c.H Q
theorem pdp_none : PDP X S W none dNoP := ⟨_, po_none, fun env σ c μ Q I en q => q c I.step I⟩
theorem pdp_some (h : PDE X S W e d) : PDP X S W (some e) (dP d) := by
  obtain ⟨t, p, k⟩ := h.ex
  refine ⟨_, po_some p, fun env σ c μ Q I en q => ?_⟩
  show t σ c.H fun x H1 => ∃ i, x = .int i ∧ Q (some i) H1
  have q : OQ S W σ c Q ((d env μ).bind fun x μ1 => match x with
    | .int i => .ok (some i) μ1
    | _ => .stuck) := q
  refine k env σ c μ _ I en ?_
  cases e1 : d env μ with
  | ok x μ1 =>
    rw [e1] at q
    intro v c1 s1 I1 r1
    cases x with
    | int i => exact ⟨i, rep_int.mp r1, q c1 s1 I1⟩
    | _ => exact False.elim q
  | ex x ns l μ1 => rw [e1] at q; exact q
  | stuck => rw [e1] at q; exact q
def slc (μ : List M) (lo hi : Option Int) : D → Option D
  | .str z => if z.length ≤ 100000 then some (.str (cutS z lo hi)) else none
  | .tup l => if HT.sIx l.length 0 lo = 0 ∧ HT.sIx l.length l.length hi = l.length then none else some (.tup (cutL l lo hi))
  | x => match seqOf μ x with
    | some l => some (.lst (cutL l lo hi))
    | none => none
def dSlc (da : DE) (dl dh : En → List M → Out (Option Int)) : DE := fun env μ => (da env μ).bind fun x μ1 => (dl env μ1).bind fun lo μ2 => (dh env μ2).bind fun hi μ3 => match slc μ3 lo hi x with
  | some d => .ok d μ3
  | none => .stuck
theorem bindOE {σ : St} {c : Cf} {Q : VK} {t : TO} {R : Option Int → Hp → Prop} {o : Out (Option Int)} {f : Option Int → List M → Out D}
    (h : ∀ Q, OQ S W σ c Q o → t σ c.H Q) (k : EQ S W σ c Q (o.bind f)) (g : ∀ x μ c', Step S c c' → SI S c' μ → EQ S W σ c' Q (f x μ) → R x c'.H) : t σ c.H R := by
  refine h _ ?_
  cases o with
  | ok x μ => exact fun c' s I => g x μ c' s I (EQ.step s k)
  | ex x ns l μ => exact k
  | stuck => exact k
theorem okS_cut {z : Str} {lo hi : Option Int} (h : okS z = true) : okS (cutS z lo hi) = true := by
  unfold okS cutS at *
  rw [← Array.all_toList] at h ⊢
  rw [List.all_eq_true] at h ⊢
  intro x hx
  exact h x (List.mem_of_mem_drop (List.mem_of_mem_take (by simpa using hx)))
theorem pd_slc {lo hi : Option Expr} {p2 : Pos} {dl dh : En → List M → Out (Option Int)} (hK : X.K = S.K) (ha : PDE X S W a da) (hl : PDP X S W lo dl) (hh : PDP X S W hi dh) : PDE X S W (.Subscript a (.Slice lo hi none p2) pos) (dSlc da dl dh) := by
  obtain ⟨ta, pa, ka⟩ := ha.ex
  obtain ⟨tl, pl, kl⟩ := hl.ex
  obtain ⟨th, ph, kh⟩ := hh.ex
  have un : SlR X (fun x l h H Q => rSlL X.K x l h H Q ∨ rSlT X.K x l h H Q ∨ rSlS x l h H Q) := by
    intro pins s σ H x v vl vu lo hi sl Q I rx hs pl pu h
    rcases h with h | h | h
    · exact sl_list pins s σ H x v vl vu lo hi sl Q I rx hs pl pu h
    · exact sl_tup pins s σ H x v vl vu lo hi sl Q I rx hs pl pu h
    · exact sl_str pins s σ H x v vl vu lo hi sl Q I rx hs pl pu h
  refine ⟨_, pe_slice un pa pl ph, fun env σ c μ Q I en q => ?_⟩
  refine (show ta σ c.H fun x H1 => tl σ H1 fun l H2 => th σ H2 fun u H3 => rSlL X.K x l u H3 Q ∨ rSlT X.K x l u H3 Q ∨ rSlS x l u H3 Q from ?_)
  refine bindE (fun Q' => ka env σ c μ Q' I en) q fun x μ1 v c1 s1 I1 r1 q1 => ?_
  refine bindOE (fun Q' => kl env σ c1 μ1 Q' I1 (en.step s1)) q1 fun lo μ2 c2 s2 I2 q2 => ?_
  refine bindOE (fun Q' => kh env σ c2 μ2 Q' I2 ((en.step s1).step s2)) q2 fun hi μ3 c3 s3 I3 q3 => ?_
  have r3 := s3.rep (s2.rep r1)
  have ls : ∀ l, lstOf μ3 x = some l ∨ (∃ ns, x = .scr ns ∧ l = ns.map D.int) → EQ S W σ c3 Q (.ok (.lst (cutL l lo hi)) μ3) → rSlL X.K v lo hi c3.H Q := fun l hl q3 => by
    have go : ∀ p xs, v = .ref p → SqL S.K c3.H p xs → reps S c3.io c3.F l xs → rSlL X.K v lo hi c3.H Q := fun p xs ev hx r => by
      refine ⟨p, xs, ev, by rw [hK]; exact hx, fun z hz => new_lst I3 ?_ q3 hz⟩
      unfold cutL
      rw [r.len]
      exact (r.drop _).take _
    rcases hl with hl | ⟨ns, rfl, rfl⟩
    · obtain ⟨p, xs, ev, h2, h3⟩ := lst_at I3 r3 hl
      exact go p xs ev (sq_of h2) h3
    · unfold rep at r3
      obtain ⟨p, ev, h2⟩ := r3
      exact go p _ ev (ex_l I3.ex h2) (reps_ints ns)
  cases x with
  | str z =>
    dsimp only [slc] at q3
    by_cases hz : z.length ≤ 100000
    · rw [if_pos hz] at q3
      refine Or.inr (Or.inr ⟨z, (rep_str.mp r3).1, sz_of hz, q3 _ c3 I3.step I3 (rep_str.mpr ⟨rfl, okS_cut (rep_str.mp r3).2⟩)⟩)
    · rw [if_neg hz] at q3; exact False.elim q3
  | tup l =>
    dsimp only [slc] at q3
    by_cases hz : HT.sIx l.length 0 lo = 0 ∧ HT.sIx l.length l.length hi = l.length
    · rw [if_pos hz] at q3; exact False.elim q3
    · rw [if_neg hz] at q3
      unfold rep at r3
      obtain ⟨p, xs, ev, h2, h3⟩ := r3
      refine Or.inr (Or.inl ⟨p, xs, ev, by rw [hK]; exact ex_t I3.ex h2, by rw [← h3.len]; exact hz, fun z hz => new_tup I3 ?_ q3 hz⟩)
      unfold cutL
      rw [h3.len]
      exact (h3.drop _).take _
  | lst l => exact Or.inl (ls l (Or.inl rfl) q3)
  | cel i =>
    dsimp only [slc, seqOf] at q3
    cases e : μ3[i]? with
    | none => rw [e] at q3; exact False.elim q3
    | some m =>
      rw [e] at q3
      cases m with
      | lst l => exact Or.inl (ls l (Or.inl (by dsimp only [lstOf]; rw [e])) q3)
      | _ => exact False.elim q3
  | scr ns => exact Or.inl (ls _ (Or.inr ⟨ns, rfl, rfl⟩) q3)
  | _ => exact False.elim q3
/-! ### fields -/
def fldOf (f : Str) : List Str → List D → Option D
  | n :: ns, d :: l => if f = n then some d else fldOf f ns l
  | _, _ => none
def fldAt (μ : List M) (f : Str) : D → Option D
  | .obj _ ns l => fldOf f ns l
  | .cel i => match μ[i]? with
    | some (.obj _ ns l) => fldOf f ns l
    | _ => none
  | _ => none
def clsAt (μ : List M) : D → Option Str
  | .obj c _ _ => some c
  | .cel i => match μ[i]? with
    | some (.obj c _ _) => some c
    | _ => none
  | _ => none
theorem fld_reps {io : List Addr} {F : Hp} {f : Str} : ∀ {fs : List (Str × V)} {ns : List Str} {l : List D} {d : D}, fs.map (·.1) = ns → reps S io F l (fs.map (·.2)) → fldOf f ns l = some d → ∃ v, fs.lookup f = some v ∧ rep S io F d v
  | [], ns, l, d, e, r, h => by subst e; cases l <;> cases h
  | (n, v) :: fs, ns, l, d, e, r, h => by
    subst e
    cases l with
    | nil => cases h
    | cons d' l' =>
      obtain ⟨x, q, e1, r1, r2⟩ := r.uncons
      cases e1
      by_cases hf : f = n
      · have h' : (if f = n then some d' else fldOf f (fs.map (·.1)) l') = some d := h
        rw [if_pos hf] at h'
        cases h'
        exact ⟨v, by rw [List.lookup_cons, hf]; simp, r1⟩
      · have h' : (if f = n then some d' else fldOf f (fs.map (·.1)) l') = some d := h
        rw [if_neg hf] at h'
        obtain ⟨u, k1, k2⟩ := fld_reps rfl r2 h'
        refine ⟨u, ?_, k2⟩
        have hb : (f == n) = false := by simpa using hf
        rw [List.lookup_cons, hb]
        exact k1
/-- an instance, frozen or a cell -/
theorem obj_at {c : Cf} {μ : List M} {d : D} {v : V} {cl : Str} (I : SI S c μ) (r : rep S c.io c.F d v) (h : clsAt μ d = some cl) :
    ∃ a dx fs ns l, v = .ref a ∧ c.H a = some (.ins (S.A cl) dx fs) ∧ fs.map (·.1) = ns ∧ reps S c.io c.F l (fs.map (·.2)) ∧ (∀ f, fldAt μ f d = fldOf f ns l) ∧ cl ∈ S.cls := by
  cases d with
  | obj cl' ns l =>
    cases (show some cl' = some cl from h)
    unfold rep at r
    obtain ⟨a, dx, fs, h1, h2, h3, h4, h5⟩ := r
    exact ⟨a, dx, fs, ns, l, h1, I.ex _ _ h2, h3, h4, fun f => rfl, h5⟩
  | cel i =>
    unfold rep at r
    obtain ⟨a, h1, h2⟩ := r
    dsimp only [clsAt] at h
    cases e : μ[i]? with
    | none => rw [e] at h; cases h
    | some m =>
      rw [e] at h
      cases m with
      | obj cl' ns l =>
        cases (show some cl' = some cl from h)
        obtain ⟨_, dx, fs, k2, k3, k4⟩ := I.cell i a _ h2 e
        exact ⟨a, dx, fs, ns, l, h1, k2, k3, k4, fun f => by dsimp only [fldAt]; rw [e], I.cls i _ _ _ e⟩
      | _ => cases h
  | _ => cases h
/-- what is known of the own classes: their instances have plain attributes, no class has the field's name -/
def ClsOk (S : Sx) (f : Str) : Prop := ∀ c ∈ S.cls, Cls S.K (S.A c) ∧ NoAttr S.K (S.A c) f
def dFld (f : Str) (da : DE) : DE := fun env μ => (da env μ).bind fun x μ1 => match clsAt μ1 x with
  | some _ => match fldAt μ1 f x with
    | some d => .ok d μ1
    | none => .stuck
  | none => .stuck
theorem pd_fld {f : Str} (hK : X.K = S.K) (hc : ClsOk S f) (ha : PDE X S W a da) (hb : attributeBase a f X.env (eval a X.env) = eval a X.env := by rfl) : PDE X S W (.Attribute a f pos) (dFld f da) := by
  obtain ⟨ta, pa, ka⟩ := ha.ex
  refine ⟨_, pe_fld pa hb, fun env σ c μ Q I en q => ?_⟩
  refine (show ta σ c.H fun x H1 => ∃ a C dx fs v, x = .ref a ∧ H1 a = some (.ins C dx fs) ∧ Cls X.K C ∧ NoAttr X.K C f ∧ fs.lookup f = some v ∧ Q v H1 from ?_)
  refine bindE (fun Q' => ka env σ c μ Q' I en) q fun x μ1 v c1 s1 I1 r1 q1 => ?_
  cases e : clsAt μ1 x with
  | none => rw [e] at q1; exact False.elim q1
  | some cl =>
    rw [e] at q1
    cases e2 : fldAt μ1 f x with
    | none => rw [e2] at q1; exact False.elim q1
    | some d =>
      rw [e2] at q1
      obtain ⟨a, dx, fs, ns, l, rfl, h2, h3, h4, h5, hm⟩ := obj_at I1 r1 e
      rw [h5] at e2
      obtain ⟨u, k1, k2⟩ := fld_reps h3 h4 e2
      exact ⟨a, _, dx, fs, u, rfl, h2, by rw [hK]; exact (hc cl hm).1, by rw [hK]; exact (hc cl hm).2, k1, q1 u c1 I1.step I1 k2⟩
end
end DL
namespace DL
open PySem PySem.Spec PyProof.Rows L2
open Classical in
/-! ### targets -/
abbrev DG := D → En → List M → Option En
def Agree (js : List Nat) (σ σ' : St) : Prop := σ'.length = σ.length ∧ ∀ i, i ∉ js → σ'[i]? = σ[i]?
structure PDG (X : Cx) (S : Sx) (tg : Expr) (dg : DG) (js : List Nat) : Prop where
  ex : ∃ g, PG X tg g ∧ ∀ env σ c μ d v env' Q, SI S c μ → EnvOk S c env σ → rep S c.io c.F d v → dg d env μ = some env' → (∀ σ', EnvOk S c env' σ' → Agree js σ σ' → Q σ' c.H) → g v σ c.H Q
structure PDGs (X : Cx) (S : Sx) (tgs : List Expr) (dg : List D → En → List M → Option En) (js : List Nat) : Prop where
  ex : ∃ g, PGs X tgs g ∧ ∀ env σ c μ l vs env' Q, SI S c μ → EnvOk S c env σ → reps S c.io c.F l vs → dg l env μ = some env' → (∀ σ', EnvOk S c env' σ' → Agree js σ σ' → Q σ' c.H) → g vs σ c.H Q
@[simp] def gNm (i : Nat) : DG := fun d env _ => some (env.set i (some d))
def gsCons (g : DG) (gs : List D → En → List M → Option En) : List D → En → List M → Option En := fun l env μ => match l with
  | d :: l => match g d env μ with
    | some env1 => gs l env1 μ
    | none => none
  | [] => none
def gSeq (n : Nat) (gs : List D → En → List M → Option En) : DG := fun d env μ => match seqOf μ d with
  | some l => if l.length = n then gs l env μ else none
  | none => none
section
variable {X : Cx} {S : Sx} {W : WX} {a b e tg : Expr} {es : List Expr} {da db d : DE} {dt : DT} {pos : Pos} {k : Nat}
theorem Agree.trans {js js' : List Nat} {σ σ1 σ2 : St} (a : Agree js σ σ1) (b : Agree js' σ1 σ2) : Agree (js ++ js') σ σ2 :=
  ⟨b.1.trans a.1, fun i h => (b.2 i fun q => h (List.mem_append_right _ q)).trans (a.2 i fun q => h (List.mem_append_left _ q))⟩
theorem pdg_name {i : Nat} {x : Str} (hN : X.N.Nodup) (hi : X.N[i]? = some x) (hx : Loc X.env.scope x) (hf : X.fn x = true ∨ X.env.scope.names.lookup x = some .local := by first | exact .inl rfl | exact .inr rfl) : PDG X S (.Name x pos) (gNm i) [i] := by
  refine ⟨_, pg_name hN hi hx hf, fun env σ c μ d v env' Q I en r e k => ?_⟩
  cases (show some (env.set i (some d)) = some env' from e)
  exact k _ (en.set r i) ⟨List.length_set, fun j h => List.getElem?_set_ne fun z => h (by simp [z])⟩
theorem pdgs_nil : PDGs X S [] gsNil [] := by
  refine ⟨_, pgs_nil, fun env σ c μ l vs env' Q I en r e k => ?_⟩
  cases l with
  | nil =>
    cases (show some env = some env' from e)
    exact ⟨r.eq_nil, k σ en ⟨rfl, fun _ _ => rfl⟩⟩
  | cons _ _ => cases e
theorem pdgs_cons {g : DG} {gs : List D → En → List M → Option En} {js js' : List Nat} (h1 : PDG X S e g js) (h2 : PDGs X S es gs js') (hs : (assignEach (e :: es) X.env).map (·.2) = assign e X.env :: (assignEach es X.env).map (·.2) := by rfl) : PDGs X S (e :: es) (gsCons g gs) (js ++ js') := by
  obtain ⟨t1, p1, k1⟩ := h1.ex
  obtain ⟨t2, p2, k2⟩ := h2.ex
  refine ⟨_, pgs_cons p1 p2 hs, fun env σ c μ l vs env' Q I en r e k => ?_⟩
  cases l with
  | nil => cases e
  | cons d l =>
    obtain ⟨x, q, rfl, r1, r2⟩ := r.uncons
    have e : (match g d env μ with
      | some env1 => gs l env1 μ
      | none => none) = some env' := e
    cases e1 : g d env μ with
    | none => rw [e1] at e; cases e
    | some env1 =>
      rw [e1] at e
      refine ⟨x, q, rfl, k1 env σ c μ d x env1 _ I en r1 e1 fun σ1 en1 a1 => ?_⟩
      exact k2 env1 σ1 c μ l q env' _ I en1 r2 e fun σ2 en2 a2 => k σ2 en2 (a1.trans a2)
theorem pdg_tup {n : Nat} {gs : List D → En → List M → Option En} {js : List Nat} (hK : X.K = S.K) (hc : X.calm = true) (h : PDGs X S es gs js) (hn : (assignEach es X.env).length = n := by rfl) (hst : (assignEach es X.env).findIdx? (·.1) = none := by rfl) :
    PDG X S (.Tuple es k pos) (gSeq n gs) js := by
  obtain ⟨t, p, kk⟩ := h.ex
  have P1 := pg_tup (k := k) (pos := pos) hc p hn hst
  have P2 := pg_lst (k := k) (pos := pos) hc p hn hst
  refine ⟨fun v σ H Q => gTup X.K n t v σ H Q ∨ gLst X.K n t v σ H Q, ⟨fun pins s σ H v u Q I r h => ?_⟩, fun env σ c μ d v env' Q I en r e k => ?_⟩
  · rcases h with h | h
    · exact P1.run pins s σ H v u Q I r h
    · exact P2.run pins s σ H v u Q I r h
  · have e : (match seqOf μ d with
      | some l => if l.length = n then gs l env μ else none
      | none => none) = some env' := e
    cases e1 : seqOf μ d with
    | none => rw [e1] at e; cases e
    | some l =>
      rw [e1] at e
      dsimp only at e
      by_cases hl : l.length = n
      · rw [if_pos hl] at e
        obtain ⟨a, xs, rfl, h2, h3⟩ := seq_at I r e1
        have hx : xs.length = n := by rw [← h3.len]; exact hl
        have fin := kk env σ c μ l xs env' Q I en h3 e k
        rcases h2 with h2 | h2
        · exact Or.inr ⟨a, xs, rfl, by rw [hK]; exact h2, hx, fin⟩
        · exact Or.inl ⟨a, xs, rfl, by rw [hK]; exact h2, hx, fin⟩
      · rw [if_neg hl] at e; cases e
/-! ### what is walked -/
structure WalkD (S : Sx) (J : It) (l : List D) (g : List M → Prop) (c : Cf) : Prop where
  ex : ∃ G Y, Walk J l.length G Y ∧ (∀ c2 μ2, Step S c c2 → SI S c2 μ2 → g μ2 → G c2.H) ∧
    ∀ i x H' c2 μ2, i < l.length → Step S c c2 → SI S c2 μ2 → g μ2 → Y i c2.H x H' → ∃ c3 d, c3.H = H' ∧ Step S c2 c3 ∧ SI S c3 μ2 ∧ l[i]? = some d ∧ rep S c3.io c3.F d x
theorem WalkD.step {J : It} {l : List D} {g : List M → Prop} {c c' : Cf} (w : WalkD S J l g c) (s : Step S c c') : WalkD S J l g c' := by
  obtain ⟨G, Y, w1, w2, w3⟩ := w.ex
  exact ⟨G, Y, w1, fun c2 μ2 s2 => w2 c2 μ2 (s.trans s2), fun i x H' c2 μ2 hi s2 => w3 i x H' c2 μ2 hi (s.trans s2)⟩
abbrev DI := En → List M → Out (List D × (List M → Prop))
def IQ (S : Sx) (W : WX) (σ : St) (c : Cf) (R : It → Hp → Prop) : Out (List D × (List M → Prop)) → Prop
  | .ok lg μ => ∀ J c', Step S c c' → SI S c' μ → WalkD S J lg.1 lg.2 c' → R J c'.H
  | .ex x ns l μ => XQ S W σ c x ns l μ
  | .stuck => False
structure PDI (X : Cx) (S : Sx) (W : WX) (tg iter : Expr) (di : DI) : Prop where
  ex : ∃ wi, PI X tg iter wi ∧ ∀ env σ c μ R, SI S c μ → EnvOk S c env σ → IQ S W σ c R (di env μ) → wi σ c.H R
/-- over a list -/
def iSeq (da : DE) : DI := fun env μ => (da env μ).bind fun x μ1 => match x with
  | .tup _ => .stuck
  | _ => match seqOf μ1 x with
    | some l => .ok (l, fun μ2 => seqOf μ2 x = some l) μ1
    | none => .stuck
/-- over a tuple -/
def iTupD (da : DE) : DI := fun env μ => (da env μ).bind fun x μ1 => match x with
  | .tup l => .ok (l, fun _ => True) μ1
  | _ => .stuck
theorem bindEI {σ : St} {c : Cf} {Q : It → Hp → Prop} {t : TE} {R : V → Hp → Prop} {o : Out D} {f : D → List M → Out (List D × (List M → Prop))}
    (h : ∀ Q, EQ S W σ c Q o → t σ c.H Q) (k : IQ S W σ c Q (o.bind f)) (g : ∀ x μ v c', Step S c c' → SI S c' μ → rep S c'.io c'.F x v → IQ S W σ c' Q (f x μ) → R v c'.H) : t σ c.H R := by
  refine h _ ?_
  cases o with
  | ok x μ =>
    have k : IQ S W σ c Q (f x μ) := k
    refine fun v c' s I r => g x μ v c' s I r ?_
    cases e : f x μ with
    | ok lg μ2 => rw [e] at k; exact fun J c2 s2 => k J c2 (s.trans s2)
    | ex x ns l μ2 => rw [e] at k; exact XQ.step s k
    | stuck => rw [e] at k; exact k
  | ex x ns l μ => exact k
  | stuck => exact k
/-- where a datum's items are read off a list -/
theorem seq_same {c : Cf} {μ : List M} {d : D} {v : V} {l : List D} (I : SI S c μ) (r : rep S c.io c.F d v) (h : seqOf μ d = some l) (hl : ∀ t, d ≠ .tup t) : ∃ a xs, v = .ref a ∧ SqL S.K c.H a xs ∧ reps S c.io c.F l xs := by
  cases d with
  | tup t => exact absurd rfl (hl t)
  | lst l' =>
    obtain ⟨a, xs, h1, h2, h3⟩ := lst_at I r (show lstOf μ (.lst l') = some l from h)
    exact ⟨a, xs, h1, sq_of h2, h3⟩
  | cel i =>
    obtain ⟨a, xs, h1, h2, h3⟩ := lst_at I r (show lstOf μ (.cel i) = some l from h)
    exact ⟨a, xs, h1, sq_of h2, h3⟩
  | scr ns =>
    unfold rep at r
    obtain ⟨a, h1, h2⟩ := r
    cases (show some (ns.map D.int) = some l from h)
    exact ⟨a, _, h1, ex_l I.ex h2, reps_ints ns⟩
  | _ => cases h
theorem Itl_walk {K : PySem.W.Frag} {a : Addr} {n : Nat} : Walk (Itl K a) n (fun H => ∃ xs, SqL K H a xs ∧ xs.length = n) (fun i H x H' => H' = H ∧ ∀ xs, SqL K H a xs → xs[i]? = some x) :=
  ⟨fun i _ hi ⟨xs, q, e⟩ => ⟨xs, xs[i]'(by omega), q, by simp⟩, fun _ ⟨xs, q, e⟩ => ⟨xs, q, Nat.le_of_eq e⟩, fun _ _ _ _ _ _ y => ⟨y.1, y.2⟩⟩
theorem Itt_walk {K : PySem.W.Frag} {a : Addr} {n : Nat} : Walk (Itt K a) n (fun H => ∃ xs, SqT K H a xs ∧ xs.length = n) (fun i H x H' => H' = H ∧ ∀ xs, SqT K H a xs → xs[i]? = some x) :=
  ⟨fun i _ hi ⟨xs, q, e⟩ => ⟨xs, xs[i]'(by omega), q, by simp⟩, fun _ ⟨xs, q, e⟩ => ⟨xs, q, Nat.le_of_eq e⟩, fun _ _ _ _ _ _ y => ⟨y.1, y.2⟩⟩
theorem pdi_tup (hK : X.K = S.K) (ha : PDE X S W a da) : PDI X S W tg a (iTupD da) := by
  obtain ⟨ta, pa, ka⟩ := ha.ex
  refine ⟨_, pi_tup pa, fun env σ c μ R I en q => ?_⟩
  refine (show ta σ c.H fun x H1 => ∃ a, x = .ref a ∧ (∃ xs, SqT X.K H1 a xs) ∧ R (Itt X.K a) H1 from ?_)
  refine bindEI (fun Q' => ka env σ c μ Q' I en) q fun x μ1 v c1 s1 I1 r1 q1 => ?_
  cases x with
  | tup l =>
    have r1' := r1
    unfold rep at r1
    obtain ⟨p, xs, rfl, h2, h3⟩ := r1
    rw [hK]
    refine ⟨p, rfl, ⟨xs, ex_t I1.ex h2⟩, q1 _ c1 I1.step I1 ⟨_, _, Itt_walk, fun c2 μ2 s2 I2 _ => ⟨xs, ex_t I2.ex (ex_t s2.exF h2), h3.len.symm⟩, fun i x H' c2 μ2 hi s2 I2 _ y => ?_⟩⟩
    obtain ⟨rfl, y⟩ := y
    have hx := y xs (ex_t I2.ex (ex_t s2.exF h2))
    obtain ⟨d, k1, k2⟩ := h3.getV hx
    exact ⟨c2, d, rfl, I2.step, I2, k1, s2.rep k2⟩
  | _ => exact False.elim q1
theorem pdi_seq (hK : X.K = S.K) (ha : PDE X S W a da) : PDI X S W tg a (iSeq da) := by
  obtain ⟨ta, pa, ka⟩ := ha.ex
  refine ⟨_, pi_list pa, fun env σ c μ R I en q => ?_⟩
  refine (show ta σ c.H fun x H1 => ∃ a, x = .ref a ∧ (∃ xs, SqL X.K H1 a xs) ∧ R (Itl X.K a) H1 from ?_)
  refine bindEI (fun Q' => ka env σ c μ Q' I en) q fun x μ1 v c1 s1 I1 r1 q1 => ?_
  have go : ∀ l, seqOf μ1 x = some l → (∀ t, x ≠ .tup t) → IQ S W σ c1 R (.ok (l, fun μ2 => seqOf μ2 x = some l) μ1) → ∃ a, v = .ref a ∧ (∃ xs, SqL X.K c1.H a xs) ∧ R (Itl X.K a) c1.H := fun l e1 nt q1 => by
    obtain ⟨p, xs, rfl, h2, h3⟩ := seq_same I1 r1 e1 nt
    rw [hK]
    refine ⟨p, rfl, ⟨xs, h2⟩, q1 _ c1 I1.step I1 ⟨_, _, Itl_walk, fun c2 μ2 s2 I2 e2 => ?_, fun i x2 H' c2 μ2 hi s2 I2 e2 y => ?_⟩⟩
    · obtain ⟨p2, ys, ep, k2, k3⟩ := seq_same I2 (s2.rep r1) e2 nt
      cases ep
      exact ⟨ys, k2, k3.len.symm⟩
    · obtain ⟨rfl, y⟩ := y
      obtain ⟨p2, ys, ep, k2, k3⟩ := seq_same I2 (s2.rep r1) e2 nt
      cases ep
      obtain ⟨d, m1, m2⟩ := k3.getV (y ys k2)
      exact ⟨c2, d, rfl, I2.step, I2, m1, m2⟩
  cases x with
  | tup l => exact False.elim q1
  | lst l => exact go l rfl (fun _ z => nomatch z) q1
  | scr ns => exact go _ rfl (fun _ z => nomatch z) q1
  | cel i =>
    cases e : seqOf μ1 (.cel i) with
    | none =>
      dsimp only at q1
      rw [e] at q1; exact False.elim q1
    | some l =>
      dsimp only at q1
      rw [e] at q1; exact go l e (fun _ z => nomatch z) q1
  | _ => exact False.elim q1
/-- over a text's signs -/
def signs (z : Str) : List D := z.cps.toList.map fun n => D.str ⟨#[n]⟩
def iStrD (da : DE) : DI := fun env μ => (da env μ).bind fun x μ1 => match x with
  | .str z => .ok (signs z, fun _ => True) μ1
  | _ => .stuck
theorem okS_mem {z : Str} {n : Nat} (h : okS z = true) (m : n ∈ z.cps.toList) : okS ⟨#[n]⟩ = true := by
  unfold okS at h ⊢
  rw [← Array.all_toList] at h ⊢
  have := List.all_eq_true.mp h n m
  simpa using this
theorem pdi_str (ha : PDE X S W a da) : PDI X S W tg a (iStrD da) := by
  obtain ⟨ta, pa, ka⟩ := ha.ex
  refine ⟨_, pi_str pa, fun env σ c μ R I en q => ?_⟩
  refine (show ta σ c.H fun v H1 => ∃ x, v = .str x ∧ R (Its x) H1 from ?_)
  refine bindEI (fun Q' => ka env σ c μ Q' I en) q fun x μ1 v c1 s1 I1 r1 q1 => ?_
  cases x with
  | str z =>
    have hz : (signs z).length = z.cps.size := by unfold signs; rw [List.length_map, Array.length_toList]
    refine ⟨z, (rep_str.mp r1).1, q1 _ c1 I1.step I1 ⟨_, _, by rw [show (signs z, fun _ => True).1 = signs z from rfl, hz]; exact walk_str, fun _ _ _ _ _ => trivial, fun i x H' c2 μ2 hi s2 I2 _ y => ?_⟩⟩
    obtain ⟨rfl, n, hn, rfl⟩ := y
    have hn' : z.cps.toList[i]? = some n := by rw [Array.getElem?_toList]; exact hn
    refine ⟨c2, .str ⟨#[n]⟩, rfl, I2.step, I2, ?_, rep_str.mpr ⟨rfl, okS_mem (rep_str.mp r1).2 (List.mem_of_getElem? hn')⟩⟩
    show (signs z)[i]? = _
    unfold signs
    rw [List.getElem?_map, hn']; rfl
  | _ => exact False.elim q1
/-- over range(n), range(a, b) -/
def iota (lo : Int) (n : Nat) : List D := (List.range n).map fun i => D.int (lo + (i : Nat))
def iRng (ds : DA) : DI := fun env μ => (ds env μ).bind fun l μ1 => match l with
  | [.int n] => if -(2 ^ 62) ≤ n ∧ n < 2 ^ 62 then .ok (iota 0 n.toNat, fun _ => True) μ1 else .stuck
  | _ => .stuck
def iRngTwo (ds : DA) : DI := fun env μ => (ds env μ).bind fun l μ1 => match l with
  | [.int a, .int b] => if -(2 ^ 62) ≤ a ∧ a < 2 ^ 62 ∧ -(2 ^ 62) ≤ b ∧ b < 2 ^ 62 then .ok (iota a (b - a).toNat, fun _ => True) μ1 else .stuck
  | _ => .stuck
theorem walkD_iota {lo : Int} {n : Nat} {c : Cf} : WalkD S (Itr lo n) (iota lo n) (fun _ => True) c := by
  have hz : (iota lo n).length = n := by unfold iota; rw [List.length_map, List.length_range]
  refine ⟨_, _, by rw [hz]; exact walk_range, fun _ _ _ _ _ => trivial, fun i x H' c2 μ2 hi s2 I2 _ y => ?_⟩
  obtain ⟨rfl, rfl⟩ := y
  refine ⟨c2, .int (lo + (i : Nat)), rfl, I2.step, I2, ?_, rep_int.mpr rfl⟩
  rw [hz] at hi
  unfold iota
  rw [List.getElem?_map, List.getElem?_range hi]; rfl
theorem bindAI {σ : St} {c : Cf} {Q : It → Hp → Prop} {t : TA} {R : List V → Hp → Prop} {o : Out (List D)} {f : List D → List M → Out (List D × (List M → Prop))}
    (h : ∀ Q, AQ S W σ c Q o → t σ c.H Q) (k : IQ S W σ c Q (o.bind f)) (g : ∀ x μ v c', Step S c c' → SI S c' μ → reps S c'.io c'.F x v → IQ S W σ c' Q (f x μ) → R v c'.H) : t σ c.H R := by
  refine h _ ?_
  cases o with
  | ok x μ =>
    have k : IQ S W σ c Q (f x μ) := k
    refine fun v c' s I r => g x μ v c' s I r ?_
    cases e : f x μ with
    | ok lg μ2 => rw [e] at k; exact fun J c2 s2 => k J c2 (s.trans s2)
    | ex x ns l μ2 => rw [e] at k; exact XQ.step s k
    | stuck => rw [e] at k; exact k
  | ex x ns l μ => exact k
  | stuck => exact k
variable {ds : DA}
theorem pdi_range1 {p : Pos} (hg : Gl X "range") (hm : X.mg "range" = none) (ha : PDA X S W [a] ds) (hs : starEach [a] X.env = [(false, eval a X.env)] := by rfl) : PDI X S W tg (.Call (.Name "range" p) [a] [] pos) (iRng ds) := by
  obtain ⟨ta, pa, ka⟩ := ha.ex
  refine ⟨_, pi_range1 hg hm pa hs, fun env σ c μ R I en q => ?_⟩
  refine (show ta σ c.H fun vs H1 => ∃ j : Int, vs = [.int j] ∧ -(2 ^ 62) ≤ j ∧ j < 2 ^ 62 ∧ R (Itr 0 j.toNat) H1 from ?_)
  refine bindAI (fun Q' => ka env σ c μ Q' I en) q fun x μ1 v c1 s1 I1 r1 q1 => ?_
  split at q1
  · rename_i n
    by_cases h : -(2 ^ 62) ≤ n ∧ n < 2 ^ 62
    · rw [if_pos h] at q1
      obtain ⟨y, r, rfl, h1, h2⟩ := r1.uncons
      rw [h2.eq_nil, rep_int.mp h1]
      exact ⟨n, rfl, h.1, h.2, q1 _ c1 I1.step I1 walkD_iota⟩
    · rw [if_neg h] at q1; exact False.elim q1
  · exact False.elim q1
/-! ### for -/
noncomputable def forGo (g : List M → Prop) (tg : DG) (body : DS) : List D → En → List M → SO
  | [], env, μ => if guard g μ = true then .nx env μ else .stuck
  | x :: xs, env, μ => if guard g μ = true then match tg x env μ with
    | some env1 => match body env1 μ with
      | .nx e m => forGo g tg body xs e m
      | .ct e m => forGo g tg body xs e m
      | .bk e m => .nx e m
      | o => o
    | none => .stuck
    else .stuck
noncomputable def dFor (di : DI) (tg : DG) (body : DS) : DS := fun env μ => (di env μ).bindS env fun lg μ1 => forGo lg.2 tg body lg.1 env μ1
theorem pds_for {iter : Expr} {body : List Stmt} {di : DI} {dg : DG} {db : DS} {js : List Nat} (hp : PassesOwn (model X.prog X.w) X.A X.env X.xe) (hc : X.calm = true) (hi : PDI X S W tg iter di) (hg : PDG X S tg dg js) (hb : PDSs X S W body db)
    (hs : ∀ x, foldedSetIterable iter X.env x = pure x := by intro _; rfl) : PDS X S W (.For tg iter body [] pos) (dFor di dg db) := by
  obtain ⟨wi, pi, ki⟩ := hi.ex
  obtain ⟨g, pg, kg⟩ := hg.ex
  obtain ⟨tb, pb, kb⟩ := hb.ex
  refine ⟨_, ps_for hp hc pi pg pb hs, fun env σ c μ E I en q => ?_⟩
  have q : SQ S W c E ((di env μ).bindS env fun lg μ1 => forGo lg.2 dg db lg.1 env μ1) := q
  refine ki env σ c μ _ I en ?_
  cases e : di env μ with
  | stuck => rw [e] at q; exact q
  | ex x ns l μ1 =>
    rw [e] at q
    exact fun dd c' s I' r => q dd σ c' s I' (en.step s) r
  | ok lg μ1 =>
    obtain ⟨l, gd⟩ := lg
    rw [e] at q
    have q : SQ S W c E (forGo gd dg db l env μ1) := q
    intro J c1 s1 I1 w
    obtain ⟨G, Y, w1, w2, w3⟩ := w.ex
    refine for_it w1 (fun i σ' H' => ∃ env' c' μ', c'.H = H' ∧ Step S c1 c' ∧ SI S c' μ' ∧ EnvOk S c' env' σ' ∧ SQ S W c' E (forGo gd dg db (l.drop i) env' μ')) ?_ ?_ ?_ ?_
    · exact ⟨env, c1, μ1, rfl, I1.step, I1, en.step s1, q.step s1⟩
    · rintro i σ' H' hi ⟨env', c', μ', rfl, s', I', en', q'⟩
      refine w2 c' μ' s' I' ?_
      cases ed : l.drop i with
      | nil =>
        rw [ed] at q'
        unfold forGo at q'
        by_cases h : guard gd μ' = true
        · exact guard_iff.mp h
        · rw [if_neg h] at q'; exact False.elim q'
      | cons d r =>
        rw [ed] at q'
        unfold forGo at q'
        by_cases h : guard gd μ' = true
        · exact guard_iff.mp h
        · rw [if_neg h] at q'; exact False.elim q'
    · rintro i x σ' H' H2 hi ⟨env', c', μ', rfl, s', I', en', q'⟩ y
      have ed : l.drop i = l[i] :: l.drop (i + 1) := List.drop_eq_getElem_cons hi
      rw [ed] at q'
      unfold forGo at q'
      by_cases h : guard gd μ' = true
      · rw [if_pos h] at q'
        obtain ⟨c3, d, rfl, s3, I3, e3, r3⟩ := w3 i x H2 c' μ' hi s' I' (guard_iff.mp h) y
        rw [List.getElem?_eq_getElem hi] at e3
        rw [Option.some.inj e3] at q'
        cases et : dg d env' μ' with
        | none => rw [et] at q'; exact False.elim q'
        | some env1 =>
          rw [et] at q'
          dsimp only at q'
          refine kg env' σ' c3 μ' d x env1 _ I3 (en'.step s3) r3 et fun σ1 en1 _ => ?_
          refine kb env1 σ1 c3 μ' _ I3 en1 ?_
          have q' := SQ.step s3 q'
          cases eb : db env1 μ' with
          | nx e m =>
            rw [eb] at q'
            exact fun σ4 c4 s4 I4 en4 => ⟨e, c4, m, rfl, (s'.trans s3).trans s4, I4, en4, q'.step s4⟩
          | ct e m =>
            rw [eb] at q'
            exact fun σ4 c4 s4 I4 en4 => ⟨e, c4, m, rfl, (s'.trans s3).trans s4, I4, en4, q'.step s4⟩
          | bk e m =>
            rw [eb] at q'
            exact q'
          | rt d m =>
            rw [eb] at q'
            exact q'
          | ex x ns l e m =>
            rw [eb] at q'
            exact q'
          | stuck =>
            rw [eb] at q'
            exact q'
      · rw [if_neg h] at q'; exact False.elim q'
    · rintro σ' H' ⟨env', c', μ', rfl, s', I', en', q'⟩
      rw [List.drop_length] at q'
      unfold forGo at q'
      by_cases h : guard gd μ' = true
      · rw [if_pos h] at q'
        exact q' σ' c' I'.step I' en'
      · rw [if_neg h] at q'; exact False.elim q'
end
end DL
namespace DL
open PySem PySem.Spec PyProof.Rows L2
section
variable {X : Cx} {S : Sx} {W : WX} {a b e tg : Expr} {es : List Expr} {da db d : DE} {dt : DT} {ds : DA} {pos : Pos} {k : Nat} {st : Stmt} {rest sa sb : List Stmt} {s1 s2 : DS}
/-! ### blocks, small statements -/
@[simp] def sNil : DS := fun env μ => .nx env μ
def sSeq (a b : DS) : DS := fun env μ => (a env μ).bind b
theorem pdss_nil : PDSs X S W [] sNil := ⟨_, pss_nil, fun env σ c μ E I en q => q σ c I.step I en⟩
theorem seq_run {t1 t2 : TS} (k1 : ∀ env σ c μ E, SI S c μ → EnvOk S c env σ → SQ S W c E (s1 env μ) → t1 E σ c.H) (k2 : ∀ env σ c μ E, SI S c μ → EnvOk S c env σ → SQ S W c E (s2 env μ) → t2 E σ c.H) :
    ∀ env σ c μ E, SI S c μ → EnvOk S c env σ → SQ S W c E (sSeq s1 s2 env μ) → tSeq t1 t2 E σ c.H := by
  intro env σ c μ E I en q
  have q : SQ S W c E ((s1 env μ).bind s2) := q
  refine k1 env σ c μ { E with nx := t2 E } I en ?_
  cases e : s1 env μ with
  | nx en1 m => rw [e] at q; exact fun σ' c' s I' en' => k2 en1 σ' c' m E I' en' (SQ.step s q)
  | rt d m => rw [e] at q; exact q
  | bk e1 m => rw [e] at q; exact q
  | ct e1 m => rw [e] at q; exact q
  | ex x ns l e1 m => rw [e] at q; exact q
  | stuck => rw [e] at q; exact q
theorem pdss_cons (h1 : PDS X S W st s1) (h2 : PDSs X S W rest s2) : PDSs X S W (st :: rest) (sSeq s1 s2) := by
  obtain ⟨t1, p1, k1⟩ := h1.ex
  obtain ⟨t2, p2, k2⟩ := h2.ex
  exact ⟨_, pss_cons p1 p2, seq_run k1 k2⟩
theorem pdss_one (h1 : PDS X S W st s1) : PDSs X S W [st] s1 := by
  obtain ⟨t1, p1, k1⟩ := h1.ex
  exact ⟨_, pss_one p1, k1⟩
@[simp] def sBrk : DS := fun env μ => .bk env μ
@[simp] def sCnt : DS := fun env μ => .ct env μ
def sExp (d : DE) : DS := fun env μ => (d env μ).bindS env fun _ μ1 => .nx env μ1
theorem pds_exp (he : PDE X S W e d) (hs : swapsWith e none pos.line X.env = pure false := by rfl) : PDS X S W (.Expr e pos) (sExp d) := by
  obtain ⟨t, p, k⟩ := he.ex
  refine ⟨_, ps_expr p hs, fun env σ c μ E I en q => ?_⟩
  refine (show t σ c.H fun _ H1 => E.nx σ H1 from ?_)
  exact bindES en (fun Q' => k env σ c μ Q' I en) q fun x μ1 v c1 s1 I1 r1 q1 => q1 σ c1 I1.step I1 (en.step s1)
def sRet (d : DE) : DS := fun env μ => (d env μ).bindS env fun x μ1 => .rt x μ1
theorem pds_ret (he : PDE X S W e d) : PDS X S W (.Return (some e) pos) (sRet d) := by
  obtain ⟨t, p, k⟩ := he.ex
  refine ⟨_, ps_ret p, fun env σ c μ E I en q => ?_⟩
  refine (show t σ c.H E.rt from ?_)
  exact bindES en (fun Q' => k env σ c μ Q' I en) q fun x μ1 v c1 s1 I1 r1 q1 => q1 v c1 I1.step I1 r1
@[simp] def sRetN : DS := fun _ μ => .rt .non μ
def sIf (t : DT) (a b : DS) : DS := fun env μ => (t env μ).bindS env fun k μ1 => if k = true then a env μ1 else b env μ1
theorem pds_if (hc : PDT X S W e dt) (ha : PDSs X S W sa s1) (hb : PDSs X S W sb s2) : PDS X S W (.If e sa sb pos) (sIf dt s1 s2) := by
  obtain ⟨t, p, k⟩ := hc.ex
  obtain ⟨t1, p1, k1⟩ := ha.ex
  obtain ⟨t2, p2, k2⟩ := hb.ex
  refine ⟨_, ps_if p p1 p2, fun env σ c μ E I en q => ?_⟩
  refine (show t σ c.H fun b H1 => if b = true then t1 E σ H1 else t2 E σ H1 from ?_)
  refine bindTS en (fun Q' => k env σ c μ Q' I en) q fun x μ1 c1 s1 I1 q1 => ?_
  cases x with
  | true => exact iteT (k1 env σ c1 μ1 E I1 (en.step s1) q1)
  | false => exact iteF (k2 env σ c1 μ1 E I1 (en.step s1) q1)
/-! ### assignments -/
def sAsg (d : DE) (g : DG) : DS := fun env μ => (d env μ).bindS env fun x μ1 => match g x env μ1 with
  | some env1 => .nx env1 μ1
  | none => .stuck
theorem asg_run {t : TE} {g : TG} {dg : DG} {js : List Nat} (k : ∀ env σ c μ Q, SI S c μ → EnvOk S c env σ → EQ S W σ c Q (d env μ) → t σ c.H Q)
    (kg : ∀ env σ c μ d v env' Q, SI S c μ → EnvOk S c env σ → rep S c.io c.F d v → dg d env μ = some env' → (∀ σ', EnvOk S c env' σ' → Agree js σ σ' → Q σ' c.H) → g v σ c.H Q) :
    ∀ env σ c μ E, SI S c μ → EnvOk S c env σ → SQ S W c E (sAsg d dg env μ) → tAsg t g E σ c.H := by
  intro env σ c μ E I en q
  refine (show t σ c.H fun x H1 => g x σ H1 E.nx from ?_)
  refine bindES en (fun Q' => k env σ c μ Q' I en) q fun x μ1 v c1 s1 I1 r1 q1 => ?_
  cases e1 : dg x env μ1 with
  | none => rw [e1] at q1; exact False.elim q1
  | some env1 =>
    rw [e1] at q1
    exact kg env σ c1 μ1 x v env1 _ I1 (en.step s1) r1 e1 fun σ' en' _ => q1 σ' c1 I1.step I1 en'
theorem pds_set {i : Nat} {x : Str} {pos' : Pos} (hN : X.N.Nodup) (hi : X.N[i]? = some x) (hx : Loc X.env.scope x) (he : PDE X S W e d) (hs : swapsWith e (some (.Name x pos')) pos.line X.env = pure false := by rfl)
    (hf : X.fn x = true ∨ X.env.scope.names.lookup x = some .local := by first | exact .inl rfl | exact .inr rfl) : PDS X S W (.Assign [.Name x pos'] e pos) (sAsg d (gNm i)) := by
  obtain ⟨t, p, k⟩ := he.ex
  refine ⟨_, ps_set hN hi hx p hs hf, asg_run (js := [i]) k fun env σ c μ d v env' Q I en r e k => ?_⟩
  cases (show some (env.set i (some d)) = some env' from e)
  exact k _ (en.set r i) ⟨List.length_set, fun j h => List.getElem?_set_ne fun z => h (by simp [z])⟩
theorem pds_asg {dg : DG} {js : List Nat} (he : PDE X S W e d) (hg : PDG X S tg dg js) (hs : swapsWithSole [tg] e pos.line X.env = pure false := by rfl) (hw : swappedStores [tg] e X.env = pure none := by rfl)
    (h1 : (assignEach [tg] X.env).map (·.2) = [assign tg X.env] := by rfl) : PDS X S W (.Assign [tg] e pos) (sAsg d dg) := by
  obtain ⟨t, p, k⟩ := he.ex
  obtain ⟨g, pg, kg⟩ := hg.ex
  exact ⟨_, ps_asg p pg hs hw h1, asg_run k kg⟩
/-- x = [a, ..], a cell -/
def sCel (i : Nat) (ds : DA) : DS := fun env μ => (ds env μ).bindS env fun l μ1 => if l.length ≤ 100000 then .nx (env.set i (some (.cel μ1.length))) (μ1 ++ [.lst l]) else .stuck
theorem bindAS {σ : St} {c : Cf} {E : Ends} {env : En} {t : TA} {R : List V → Hp → Prop} {o : Out (List D)} {f : List D → List M → SO}
    (en : EnvOk S c env σ) (h : ∀ Q, AQ S W σ c Q o → t σ c.H Q) (k : SQ S W c E (o.bindS env f)) (g : ∀ x μ v c', Step S c c' → SI S c' μ → reps S c'.io c'.F x v → SQ S W c' E (f x μ) → R v c'.H) : t σ c.H R := by
  refine h _ ?_
  cases o with
  | ok x μ => exact fun v c' s I r => g x μ v c' s I r (SQ.step s k)
  | ex x ns l μ => exact fun dd c' s I r => k dd σ c' s I (en.step s) r
  | stuck => exact k
theorem cel_new {σ : St} {c : Cf} {env : En} {μ : List M} {l : List D} {xs : List V} {i : Nat} {p : Addr} (I : SI S c μ) (en : EnvOk S c env σ) (r : reps S c.io c.F l xs) (hp : c.H p = none) :
    ∃ c', c'.H = upd c.H p (.lst xs) ∧ SI S c' (μ ++ [.lst l]) ∧ Step S c c' ∧ EnvOk S c' (env.set i (some (.cel μ.length))) (σ.set i (some (.ref p))) := by
  obtain ⟨I', s⟩ := I.alloc (p := p) (o := .lst xs) (m := .lst l) hp fun io pre => ⟨I.ex.back hp, xs, upd_same, reps.mono pre (Ex.refl _) l r⟩
  refine ⟨_, rfl, I', s, (en.step s).set ?_ i⟩
  unfold rep
  refine ⟨p, rfl, ?_⟩
  show (c.io ++ [p])[μ.length]? = some p
  rw [← I.len, List.getElem?_append_right (Nat.le_refl _), Nat.sub_self]; rfl
theorem pds_cel {i : Nat} {x : Str} {pos' lpos : Pos} (hN : X.N.Nodup) (hi : X.N[i]? = some x) (hx : Loc X.env.scope x) (ha : PDA X S W es ds) (hs : swapsWith (.List es lpos) (some (.Name x pos')) pos.line X.env = pure false := by rfl)
    (hf : X.fn x = true ∨ X.env.scope.names.lookup x = some .local := by first | exact .inl rfl | exact .inr rfl) : PDS X S W (.Assign [.Name x pos'] (.List es lpos) pos) (sCel i ds) := by
  obtain ⟨t, p, k⟩ := ha.ex
  refine ⟨_, ps_set hN hi hx (pe_lst p) hs hf, fun env σ c μ E I en q => ?_⟩
  refine (show t σ c.H fun xs H1 => xs.length ≤ sizeLine ∧ ∀ p, H1 p = none → E.nx (σ.set i (some (.ref p))) (upd H1 p (.lst xs)) from ?_)
  refine bindAS en (fun Q' => k env σ c μ Q' I en) q fun l μ1 vs c1 s1 I1 r1 q1 => ?_
  by_cases h : l.length ≤ 100000
  · rw [if_pos h] at q1
    refine ⟨by rw [← r1.len]; exact sz_of h, fun p hp => ?_⟩
    obtain ⟨c2, e2, I2, s2, en2⟩ := cel_new (i := i) I1 (en.step s1) r1 hp
    rw [← e2]
    exact q1 _ c2 s2 I2 en2
  · rw [if_neg h] at q1; exact False.elim q1
def sNew (i : Nat) (ds : DA) : DS := fun env μ => (ds env μ).bindS env fun l μ1 => .nx (env.set i (some (.cel μ1.length))) (μ1 ++ [.lst l])
/-! ### xs.append(e), xs[i] = e -/
def sApp (da de : DE) : DS := fun env μ => (da env μ).bindS env fun x μ1 => match x with
  | .cel i => match μ1[i]? with
    | some (.lst _) => (de env μ1).bindS env fun y μ2 => match μ2[i]? with
      | some (.lst l) => if l.length < 100000 then .nx env (μ2.set i (.lst (l ++ [y]))) else .stuck
      | _ => .stuck
    | _ => .stuck
  | _ => .stuck
theorem cel_lst {c : Cf} {μ : List M} {i : Nat} {v : V} {l : List D} (I : SI S c μ) (r : rep S c.io c.F (.cel i) v) (e : μ[i]? = some (.lst l)) :
    ∃ a xs, v = .ref a ∧ c.io[i]? = some a ∧ c.F a = none ∧ c.H a = some (.lst xs) ∧ reps S c.io c.F l xs := by
  unfold rep at r
  obtain ⟨a, h1, h2⟩ := r
  obtain ⟨k1, xs, k2, k3⟩ := I.cell i a _ h2 e
  exact ⟨a, xs, h1, h2, k1, k2, k3⟩
theorem pds_app {apos cpos : Pos} {d2 : DE} (hK : X.K = S.K) (ha : PDE X S W a da) (he : PDE X S W e d2)
    (h1 : attributeBase a "append" X.env (eval a X.env) = eval a X.env := by rfl)
    (h2 : (((backTo cpos (starEach [e] X.env)).all (fun x => !x.1) && (backToKw cpos (keywordEach [] X.env)).all (fun x => x.1.isSome)) && decide (([e] : List Expr).length + ([] : List Keyword).length + (if ([] : List Keyword).isEmpty = true then 0 else 1) < 30)) = true := by rfl)
    (h3 : (apos.endLine == cpos.line) = true := by rfl) (h4 : starEach [e] X.env = (false, eval e X.env) :: starEach [] X.env := by rfl)
    (h5 : (backTo cpos (starEach [] X.env)).any (·.1) = false := by rfl) (hs : swapsWith (.Call (.Attribute a "append" apos) [e] [] cpos) none pos.line X.env = pure false := by rfl) :
    PDS X S W (.Expr (.Call (.Attribute a "append" apos) [e] [] cpos) pos) (sApp da d2) := by
  obtain ⟨ta, pa, ka⟩ := ha.ex
  obtain ⟨tb, pb, kb⟩ := he.ex
  refine ⟨_, ps_expr (pe_bm PySem.F.plainAttrs_list PySem.F.slot_list_append PySem.F.type_list_append mt_append pa (pa_cons pb pa_nil h4) h1 h2 h3 h4 h5) hs, fun env σ c μ E I en q => ?_⟩
  refine (show ta σ c.H fun x H1 => tyV X.K "list" x H1 ∧ tb σ H1 fun y H2 => rAppend x [y] H2 fun _ H3 => E.nx σ H3 from ?_)
  refine bindES en (fun Q' => ka env σ c μ Q' I en) q fun x μ1 v c1 s1 I1 r1 q1 => ?_
  cases x with
  | cel i =>
    try dsimp only at q1
    cases e1 : μ1[i]? with
    | none => rw [e1] at q1; exact False.elim q1
    | some m =>
      rw [e1] at q1
      cases m with
      | lst l0 =>
        try dsimp only at q1
        obtain ⟨p, xs0, rfl, hi, hf, hH, hr⟩ := cel_lst I1 r1 e1
        refine ⟨Or.inl ⟨rfl, _, sq_of hH⟩, ?_⟩
        refine bindES (en.step s1) (fun Q' => kb env σ c1 μ1 Q' I1 (en.step s1)) q1 fun y μ2 u c2 s2 I2 r2 q2 => ?_
        try dsimp only at q2
        cases e2 : μ2[i]? with
        | none => rw [e2] at q2; exact False.elim q2
        | some m2 =>
          rw [e2] at q2
          cases m2 with
          | lst l =>
            try dsimp only at q2
            by_cases hl : l.length < 100000
            · rw [if_pos hl] at q2
              obtain ⟨p2, xs, ep, hi2, hf2, hH2, hr2⟩ := cel_lst I2 (s2.rep r1) e2
              cases ep
              refine ⟨p, xs, u, rfl, rfl, hH2, by rw [← hr2.len]; exact sz_lt hl, ?_⟩
              obtain ⟨I3, s3⟩ := I2.write (o := .lst (xs ++ [u])) (m := .lst (l ++ [y])) hi2 hf2 ⟨hf2, xs ++ [u], upd_same, hr2.append (.cons r2 .nil)⟩
              exact q2 σ _ s3 I3 (((en.step s1).step s2).step s3)
            · rw [if_neg hl] at q2; exact False.elim q2
          | _ => exact False.elim q2
      | _ => exact False.elim q1
  | _ => exact False.elim q1
def sSetIx (de da di : DE) : DS := fun env μ => (de env μ).bindS env fun y μ1 => (da env μ1).bindS env fun x μ2 => (di env μ2).bindS env fun n μ3 => match x, n with
  | .cel i, .int k => match μ3[i]? with
    | some (.lst l) => match ixN l.length k with
      | some j => .nx env (μ3.set i (.lst (l.set j y)))
      | none => .stuck
    | _ => .stuck
  | _, _ => .stuck
theorem pds_setIx {i : Expr} {spos : Pos} {dx di : DE} (he : PDE X S W e d) (ha : PDE X S W a dx) (hi : PDE X S W i di)
    (h1 : ∀ v, assign (.Subscript a i spos) X.env v = (do
      let ov ← holding [v] (eval a X.env)
      let iv ← holding [v, ov] (eval i X.env)
      standAt spos
      holding [v, ov, iv] (setItem ov iv v)
      release [v, ov, iv] []) := by intro _; rfl)
    (hs : swapsWithSole [.Subscript a i spos] e pos.line X.env = pure false := by rfl) (hw : swappedStores [.Subscript a i spos] e X.env = pure none := by rfl)
    (h2 : (assignEach [.Subscript a i spos] X.env).map (·.2) = [assign (.Subscript a i spos) X.env] := by rfl) : PDS X S W (.Assign [.Subscript a i spos] e pos) (sSetIx d dx di) := by
  obtain ⟨t, p, k⟩ := he.ex
  obtain ⟨ta, pa, ka⟩ := ha.ex
  obtain ⟨ti, pi, ki⟩ := hi.ex
  refine ⟨_, ps_asg p (pg_sub pa pi set_list h1) hs hw h2, fun env σ c μ E I en q => ?_⟩
  refine (show t σ c.H fun v H1 => ta σ H1 fun o H2 => ti σ H2 fun n H3 => rSetL o n v H3 fun H4 => E.nx σ H4 from ?_)
  refine bindES en (fun Q' => k env σ c μ Q' I en) q fun y μ1 u c1 s1 I1 r1 q1 => ?_
  refine bindES (en.step s1) (fun Q' => ka env σ c1 μ1 Q' I1 (en.step s1)) q1 fun x μ2 v c2 s2 I2 r2 q2 => ?_
  refine bindES ((en.step s1).step s2) (fun Q' => ki env σ c2 μ2 Q' I2 ((en.step s1).step s2)) q2 fun n μ3 w c3 s3 I3 r3 q3 => ?_
  try dsimp only at q3
  split at q3
  · rename_i j kk
    split at q3
    · rename_i l e3
      split at q3
      · rename_i m em
        obtain ⟨p2, xs, rfl, hi2, hf2, hH2, hr2⟩ := cel_lst I3 (s3.rep r2) e3
        rw [rep_int.mp r3]
        refine ⟨p2, xs, kk, m, rfl, rfl, hH2, by rw [← hr2.len]; exact em, ?_⟩
        obtain ⟨I4, s4⟩ := I3.write (o := .lst (xs.set m u)) (m := .lst (l.set m y)) hi2 hf2 ⟨hf2, _, upd_same, reps.set (s3.rep (s2.rep r1)) m hr2⟩
        exact q3 σ _ s4 I4 ((((en.step s1).step s2).step s3).step s4)
      · exact False.elim q3
    · exact False.elim q3
  · exact False.elim q3
/-! ### while -/
end
end DL
namespace DL
open PySem PySem.Spec PyProof.Rows L2
section
variable {X : Cx} {S : Sx} {W : WX} {a b e tg : Expr} {es : List Expr} {da db d : DE} {dt : DT} {ds : DA} {pos : Pos} {k : Nat}
/-! ### comprehensions -/
def wipeE (env : En) : List Nat → En
  | [] => env
  | v :: vs => (wipeE env vs).set v none
theorem EnvOk.wipe {c : Cf} {env : En} {σ : St} (h : EnvOk S c env σ) : ∀ vs : List Nat, EnvOk S c (wipeE env vs) (L2.wipe σ vs)
  | [] => h
  | v :: vs => (EnvOk.wipe h vs).del v
theorem wipe_at {σ : St} {i : Nat} : ∀ {vs : List Nat}, i ∉ vs → (L2.wipe σ vs)[i]? = σ[i]?
  | [], _ => rfl
  | v :: vs, h => by
    show ((L2.wipe σ vs).set v none)[i]? = _
    rw [List.getElem?_set_ne fun z => h (by simp [z])]
    exact wipe_at fun q => h (List.mem_cons_of_mem _ q)
theorem wipe_in {σ : St} {i : Nat} : ∀ {vs : List Nat}, i ∈ vs → (L2.wipe σ vs)[i]? = if i < σ.length then some none else none
  | v :: vs, h => by
    show ((L2.wipe σ vs).set v none)[i]? = _
    by_cases e : v = i
    · subst e
      by_cases hl : v < σ.length
      · rw [if_pos hl, List.getElem?_set_self (by rw [L2.wipe_length]; exact hl)]
      · rw [if_neg hl, List.getElem?_eq_none (by rw [List.length_set, L2.wipe_length]; omega)]
    · rw [List.getElem?_set_ne e]
      rcases List.mem_cons.mp h with q | q
      · exact absurd q.symm e
      · exact wipe_in q
theorem wipe_agree {σ σ' : St} {js vs : List Nat} (a : Agree js (L2.wipe σ vs) σ') (h : ∀ j ∈ js, j ∈ vs) : L2.wipe σ' vs = L2.wipe σ vs := by
  apply List.ext_getElem?
  intro i
  have hl : σ'.length = σ.length := by rw [a.1, L2.wipe_length]
  by_cases m : i ∈ vs
  · rw [wipe_in m, wipe_in m, hl]
  · rw [wipe_at m, a.2 i (fun q => m (h i q))]
structure PDTs (X : Cx) (S : Sx) (W : WX) (ifs : List Expr) (d : DT) : Prop where
  ex : ∃ t, PTs X ifs t ∧ ∀ env σ c μ Q, SI S c μ → EnvOk S c env σ → TQ S W σ c Q (d env μ) → t σ c.H Q
theorem pdts_nil : PDTs X S W [] tYes' := ⟨_, pts_nil, fun env σ c μ Q I en q => q c I.step I⟩
theorem pdts_one (h : PDT X S W e dt) : PDTs X S W [e] dt := by
  obtain ⟨t, p, k⟩ := h.ex
  exact ⟨_, pts_one p, k⟩
theorem PDTs.pts {ifs : List Expr} (h : PDTs X S W ifs dt) : PTs X ifs (tT S W dt) := by
  obtain ⟨t, p, k⟩ := h.ex
  refine ⟨fun pins s σ H Q I q => ?_⟩
  obtain ⟨env, c, μ, rfl, i, en, q⟩ := q
  exact p.run pins s σ _ Q I (k env σ c μ Q i en q)
def tG (S : Sx) (dg : DG) (js : List Nat) : TG := fun v σ H Q => ∃ env c μ d env', c.H = H ∧ SI S c μ ∧ EnvOk S c env σ ∧ rep S c.io c.F d v ∧ dg d env μ = some env' ∧ ∀ σ', EnvOk S c env' σ' → Agree js σ σ' → Q σ' H
theorem PDG.pg {dg : DG} {js : List Nat} (h : PDG X S tg dg js) : PG X tg (tG S dg js) := by
  obtain ⟨t, p, k⟩ := h.ex
  refine ⟨fun pins s σ H v u Q I r q => ?_⟩
  obtain ⟨env, c, μ, d, env', rfl, i, en, r', e, q⟩ := q
  exact p.run pins s σ _ v u Q I r (k env σ c μ d v env' Q i en r' e q)
def wNo : WX := fun _ _ _ _ => False
noncomputable def lcGo (g : List M → Prop) (tg : DG) (tt : DT) (el : DE) (env0 : En) : List D → List M → List D → Out (List D)
  | [], μ, acc => if guard g μ = true then .ok acc μ else .stuck
  | x :: xs, μ, acc => if guard g μ = true then match tg x env0 μ with
    | some env1 => match tt env1 μ with
      | .ok b μ1 => if b = true then match el env1 μ1 with
        | .ok y μ2 => if acc.length < 100000 then lcGo g tg tt el env0 xs μ2 (acc ++ [y]) else .stuck
        | _ => .stuck
        else lcGo g tg tt el env0 xs μ1 acc
      | _ => .stuck
    | none => .stuck
    else .stuck
noncomputable def dLc (di : DI) (tg : DG) (tt : DT) (el : DE) (vs : List Nat) : DA := fun env μ => (di env μ).bind fun lg μ1 => lcGo lg.2 tg tt el (wipeE env vs) lg.1 μ1 []
/-- an object that is tracked, but no datum's -/
structure Ghost (c : Cf) (p : Addr) : Prop where
  io : p ∉ c.io
  F : c.F p = none
  H : c.H p ≠ none
theorem Ghost.step {c c' : Cf} {p : Addr} (g : Ghost c p) (s : Step S c c') : Ghost c' p := by
  refine ⟨fun m => g.H (s.new p m g.io), ?_, s.som p g.H⟩
  cases e : c'.F p with
  | none => rfl
  | some o =>
    obtain ⟨i, _, hi⟩ := s.frz p g.H g.F (by rw [e]; exact fun z => nomatch z)
    exact absurd (List.mem_of_getElem? hi) g.io
theorem SI.ghost {c : Cf} {μ : List M} {p : Addr} {o : HO} (I : SI S c μ) (hi : p ∉ c.io) (hf : c.F p = none) : SI S ⟨c.io, c.F, upd c.H p o⟩ μ := by
  refine ⟨I.ex.updR hf, I.len, I.nd, fun i a m h1 h2 => ?_, I.cls⟩
  have nep : a ≠ p := fun z => hi (by rw [← z]; exact List.mem_of_getElem? h1)
  have k := I.cell i a m h1 h2
  cases m with
  | lst l =>
    obtain ⟨k1, xs, k2, k3⟩ := k
    exact ⟨k1, xs, (upd_ne nep).trans k2, k3⟩
  | dct ks l =>
    obtain ⟨k1, xs, k2, k3, k4⟩ := k
    exact ⟨k1, xs, (upd_ne nep).trans k2, k3, k4⟩
  | obj x ns l =>
    obtain ⟨k1, dx, fs, k2, k3, k4⟩ := k
    exact ⟨k1, dx, fs, (upd_ne nep).trans k2, k3, k4⟩
  | dead =>
    obtain ⟨u, k⟩ := k
    exact ⟨u, (upd_ne nep).trans k⟩
  | dcT ks l =>
    obtain ⟨k1, xs, k2, k3, k4, k5⟩ := k
    exact ⟨k1, xs, (upd_ne nep).trans k2, k3, k4, k5⟩
  | lck ks l =>
    obtain ⟨od, u, vs, k1, k2, k3, k4⟩ := k
    exact ⟨od, u, vs, k1, (upd_ne nep).trans k2, k3, k4⟩
/-- a change at an object that was not there at c -/
theorem Step.ghost {c c' : Cf} {p : Addr} {o : HO} (s : Step S c c') (hp : c.H p = none) : Step S c ⟨c'.io, c'.F, upd c'.H p o⟩ := by
  refine ⟨s.pre, s.nd, s.exF, s.frz, fun q u h1 h2 => ?_, s.new, fun q h => ?_⟩
  · exact (upd_ne (ne_of_none h1 hp)).trans (s.keep q u h1 h2)
  · show upd c'.H p o q ≠ none
    by_cases e : q = p
    · rw [e, upd_same]; exact fun z => nomatch z
    · rw [upd_ne e]; exact s.som q h
theorem EnvOk.ghost {c : Cf} {env : En} {σ : St} {H : Hp} (h : EnvOk S c env σ) : EnvOk S ⟨c.io, c.F, H⟩ env σ := ⟨h.len, h.at_⟩
/-- .. becomes a datum -/
theorem SI.froz {c c1 : Cf} {μ : List M} {p : Addr} {xs : List V} {l : List D} (I : SI S c μ) (g : Ghost c p) (hH : c.H p = some (.lst xs)) (r : reps S c.io c.F l xs) (s : Step S c1 c) (hp : c1.H p = none) :
    SI S ⟨c.io, upd c.F p (.lst xs), c.H⟩ μ ∧ Step S c1 ⟨c.io, upd c.F p (.lst xs), c.H⟩ ∧ rep S c.io (upd c.F p (.lst xs)) (.lst l) (.ref p) := by
  have ex : Ex c.F (upd c.F p (.lst xs)) := Ex.new g.F
  refine ⟨⟨fun q u h => ?_, I.len, I.nd, fun i a m h1 h2 => ?_, I.cls⟩, ⟨s.pre, s.nd, s.exF.trans ex, fun q h1 h2 h3 => ?_, s.keep, s.new, s.som⟩, ?_⟩
  · by_cases e : q = p
    · subst e
      have h : upd c.F q (.lst xs) q = some u := h
      rw [upd_same] at h
      rw [← h]; exact hH
    · have h : upd c.F p (.lst xs) q = some u := h
      rw [upd_ne e] at h
      exact I.ex q u h
  · have nep : a ≠ p := fun z => g.io (by rw [← z]; exact List.mem_of_getElem? h1)
    have k := I.cell i a m h1 h2
    cases m with
    | lst l =>
      obtain ⟨k1, xs, k2, k3⟩ := k
      exact ⟨(upd_ne nep).trans k1, xs, k2, reps.mono (List.prefix_refl _) ex _ k3⟩
    | dct ks l =>
      obtain ⟨k1, xs, k2, k3, k4⟩ := k
      exact ⟨(upd_ne nep).trans k1, xs, k2, k3, reps.mono (List.prefix_refl _) ex _ k4⟩
    | obj x ns l =>
      obtain ⟨k1, dx, fs, k2, k3, k4⟩ := k
      exact ⟨(upd_ne nep).trans k1, dx, fs, k2, k3, reps.mono (List.prefix_refl _) ex _ k4⟩
    | dead => exact k
    | dcT ks l =>
      obtain ⟨k1, xs, k2, k3, k4, k5⟩ := k
      exact ⟨(upd_ne nep).trans k1, xs, k2, k3, fun e he => ex_t ex (k4 e he), reps.mono (List.prefix_refl _) ex _ k5⟩
    | lck ks l =>
      obtain ⟨od, u, vs, k1, k2, k3, k4⟩ := k
      exact ⟨od, u, vs, (upd_ne nep).trans k1, k2, k3.mono ex, reps.mono (List.prefix_refl _) ex _ k4⟩
  · have h3 : upd c.F p (.lst xs) q ≠ none := h3
    rw [upd_ne (fun z => h1 (by rw [z]; exact hp))] at h3
    exact s.frz q h1 h2 h3
  · unfold rep
    exact ⟨p, xs, rfl, upd_same, reps.mono (List.prefix_refl _) ex _ r⟩
theorem lc_run {wi : TI} {di : DI} {dg : DG} {de : DE} {js vs : List Nat} (hjs : ∀ j ∈ js, j ∈ vs)
    (ki : ∀ env σ c μ R, SI S c μ → EnvOk S c env σ → IQ S W σ c R (di env μ) → wi σ c.H R) :
    ∀ env σ c μ (Q : VK), SI S c μ → EnvOk S c env σ → (match dLc di dg dt de vs env μ with
      | .ok l μ' => ∀ (p : Addr) (c' : Cf) (xs : List V) (c1 : Cf), Step S c c1 → c1.H p = none → Step S c1 c' → SI S c' μ' → Ghost c' p → c'.H p = some (.lst xs) → reps S c'.io c'.F l xs → Q (.ref p) c'.H
      | .ex x ns l μ' => XQ S W σ c x ns l μ'
      | .stuck => False) → tLc wi (tG S dg js) (tT S wNo dt) (tE S wNo de) vs σ c.H Q := by
  intro env σ c μ Q I en q
  refine ki env σ c μ _ I en ?_
  unfold dLc at q
  cases e : di env μ with
  | stuck => rw [e] at q; exact q
  | ex x ns l μ1 => rw [e] at q; exact q
  | ok lg μ1 =>
    obtain ⟨l, gd⟩ := lg
    rw [e] at q
    intro J c1 s1 I1 w Dl hD
    obtain ⟨G, Y, w1, w2, w3⟩ := w.ex
    let fin (o : Out (List D)) : Prop := match o with
      | .ok l μ' => ∀ (p : Addr) (c' : Cf) (xs : List V) (c1 : Cf), Step S c c1 → c1.H p = none → Step S c1 c' → SI S c' μ' → Ghost c' p → c'.H p = some (.lst xs) → reps S c'.io c'.F l xs → Q (.ref p) c'.H
      | .ex x ns l μ' => XQ S W σ c x ns l μ'
      | .stuck => False
    have q : fin (lcGo gd dg dt de (wipeE env vs) l μ1 []) := q
    have io0 : Dl ∉ c1.io := fun m => by
      obtain ⟨o, h⟩ := I1.there m
      rw [hD] at h; cases h
    have f0 : c1.F Dl = none := I1.ex.back hD
    refine lc_it w1 (fun i H' => ∃ c' μ' acc xs, c'.H = H' ∧ Step S c1 c' ∧ SI S c' μ' ∧ Ghost c' Dl ∧ c'.H Dl = some (.lst xs) ∧ reps S c'.io c'.F acc xs ∧ fin (lcGo gd dg dt de (wipeE env vs) (l.drop i) μ' acc)) ?_ ?_ ?_ ?_
    · refine ⟨⟨c1.io, c1.F, upd c1.H Dl (.lst [])⟩, μ1, [], [], rfl, I1.step.ghost hD, I1.ghost io0 f0, ⟨io0, f0, ?_⟩, upd_same, .nil, q⟩
      show upd c1.H Dl (.lst []) Dl ≠ none
      rw [upd_same]; exact fun z => nomatch z
    · rintro i H' hi ⟨c', μ', acc, xs, rfl, s', I', g', h', r', q'⟩
      refine w2 c' μ' s' I' ?_
      cases ed : l.drop i with
      | nil =>
        rw [ed] at q'
        unfold lcGo at q'
        by_cases h : guard gd μ' = true
        · exact guard_iff.mp h
        · rw [if_neg h] at q'; exact False.elim q'
      | cons d r =>
        rw [ed] at q'
        unfold lcGo at q'
        by_cases h : guard gd μ' = true
        · exact guard_iff.mp h
        · rw [if_neg h] at q'; exact False.elim q'
    · rintro i x H' H2 hi ⟨c', μ', acc, xs, rfl, s', I', g', h', r', q'⟩ y
      have ed : l.drop i = l[i] :: l.drop (i + 1) := List.drop_eq_getElem_cons hi
      rw [ed] at q'
      unfold lcGo at q'
      by_cases h : guard gd μ' = true
      · rw [if_pos h] at q'
        obtain ⟨c3, d, rfl, s3, I3, e3, r3⟩ := w3 i x H2 c' μ' hi s' I' (guard_iff.mp h) y
        rw [List.getElem?_eq_getElem hi] at e3
        rw [Option.some.inj e3] at q'
        cases et : dg d (wipeE env vs) μ' with
        | none => rw [et] at q'; exact False.elim q'
        | some env1 =>
          rw [et] at q'
          have en3 : EnvOk S c3 (wipeE env vs) (L2.wipe σ vs) := (((en.step s1).step s').step s3).wipe vs
          refine ⟨_, c3, μ', d, env1, rfl, I3, en3, r3, et, fun σ1 en1 ag => ⟨wipe_agree ag hjs, env1, c3, μ', rfl, I3, en1, ?_⟩⟩
          dsimp only at q'
          cases ett : dt env1 μ' with
          | stuck => rw [ett] at q'; exact False.elim q'
          | ex _ _ _ _ => rw [ett] at q'; exact False.elim q'
          | ok b μ2 =>
            rw [ett] at q'
            intro c4 s4 I4
            have g4 := (g'.step s3).step s4
            have h4 : c4.H Dl = some (.lst xs) := s4.keep Dl _ (s3.keep Dl _ h' g'.io) (g'.step s3).io
            cases b with
            | false =>
              refine iteF ⟨c4, μ2, acc, xs, rfl, (s'.trans s3).trans s4, I4, g4, h4, s4.reps (s3.reps r'), ?_⟩
              exact q'
            | true =>
              dsimp only at q'
              rw [if_pos rfl] at q'
              refine iteT ⟨env1, c4, μ2, rfl, I4, en1.step s4, ?_⟩
              cases ee : de env1 μ2 with
              | stuck => rw [ee] at q'; exact False.elim q'
              | ex _ _ _ _ => rw [ee] at q'; exact False.elim q'
              | ok y μ3 =>
                rw [ee] at q'
                dsimp only at q'
                intro u c5 s5 I5 r5
                have g5 := g4.step s5
                have h5 : c5.H Dl = some (.lst xs) := s5.keep Dl _ h4 g4.io
                have ra := s5.reps (s4.reps (s3.reps r'))
                by_cases hl : acc.length < 100000
                · rw [if_pos hl] at q'
                  refine ⟨xs, h5, by rw [← ra.len]; exact sz_lt hl, ⟨c5.io, c5.F, upd c5.H Dl (.lst (xs ++ [u]))⟩, μ3, acc ++ [y], xs ++ [u], rfl, (((s'.trans s3).trans s4).trans s5).ghost hD, I5.ghost g5.io g5.F, ⟨g5.io, g5.F, ?_⟩, upd_same, ra.append (.cons r5 .nil), q'⟩
                  show upd c5.H Dl _ Dl ≠ none
                  rw [upd_same]; exact fun z => nomatch z
                · rw [if_neg hl] at q'; exact False.elim q'
      · rw [if_neg h] at q'; exact False.elim q'
    · rintro H' ⟨c', μ', acc, xs, rfl, s', I', g', h', r', q'⟩
      rw [List.drop_length] at q'
      unfold lcGo at q'
      by_cases h : guard gd μ' = true
      · rw [if_pos h] at q'
        exact q' Dl c' xs c1 s1 hD s' I' g' h' r'
      · rw [if_neg h] at q'; exact False.elim q'
noncomputable def dLcF (di : DI) (tg : DG) (tt : DT) (el : DE) (vs : List Nat) : DE := fun env μ => (dLc di tg tt el vs env μ).bind fun l μ1 => .ok (.lst l) μ1
theorem pd_lc {iter : Expr} {ifs : List Expr} {scope : Scope} {own : List (Str × Nat)} {di : DI} {dg : DG} {js : List Nat} (hc : X.calm = true) (hN : X.N.Nodup) (hi : PDI X S W tg iter di) (ok : BlkOk X.N X.env.scope scope own) (hjs : ∀ j ∈ js, j ∈ own.map (·.2))
    (hg : ∀ (s : Shared) (H : Hp) (C : Addr) (cl : List (Str × Addr)) (fp : List Addr), PDG (X.blk s H scope (compEnvC scope cl C X.env) fp) S tg dg js) (ht : ∀ (s : Shared) (H : Hp) (C : Addr) (cl : List (Str × Addr)) (fp : List Addr), PDTs (X.blk s H scope (compEnvC scope cl C X.env) fp) S wNo ifs dt)
    (he : ∀ (s : Shared) (H : Hp) (C : Addr) (cl : List (Str × Addr)) (fp : List Addr), PDE (X.blk s H scope (compEnvC scope cl C X.env) fp) S wNo e d) (hs : ∀ x, foldedSetIterable iter X.env x = pure x := by intro _; rfl) :
    PDE X S W (.ListComp e [⟨tg, iter, ifs, 0⟩] scope pos) (dLcF di dg dt d (own.map (·.2))) := by
  obtain ⟨wi, pi, ki⟩ := hi.ex
  refine ⟨_, pe_lc hc hN pi ok (fun s H C cl fp => (hg s H C cl fp).pg) (fun s H C cl fp => (ht s H C cl fp).pts) (fun s H C cl fp => (he s H C cl fp).pe) hs, fun env σ c μ Q I en q => ?_⟩
  refine lc_run hjs ki env σ c μ Q I en ?_
  unfold dLcF at q
  cases e1 : dLc di dg dt d (own.map (·.2)) env μ with
  | stuck => rw [e1] at q; exact q
  | ex x ns l μ1 => rw [e1] at q; exact q
  | ok l μ1 =>
    rw [e1] at q
    intro p c' xs c1 s1 hp s' I' g' h' r'
    obtain ⟨I2, s2, r2⟩ := I'.froz g' h' r' s' hp
    exact q _ ⟨c'.io, upd c'.F p (.lst xs), c'.H⟩ (s1.trans s2) I2 r2
end
end DL
namespace DL
open PySem PySem.Spec PyProof.Rows L2
/-! ### what a def hands back: cells of its own become data -/
mutual
def sub (n : Nat) (f : Nat → Option D) : D → Option D
  | .cel i => if i < n then some (.cel i) else f i
  | .tup l => (subs n f l).map .tup | .lst l => (subs n f l).map .lst | .dct ks l => (subs n f l).map (.dct ks) | .obj c ns l => (subs n f l).map (.obj c ns) | .exc c ns l => (subs n f l).map (.exc c ns)
  | d => some d
def subs (n : Nat) (f : Nat → Option D) : List D → Option (List D)
  | [] => some []
  | d :: l => match sub n f d, subs n f l with
    | some d', some l' => some (d' :: l')
    | _, _ => none
end
def rsv (n : Nat) (μ : List M) : Nat → Nat → Option D
  | 0, _ => none
  | k + 1, i => match μ[i]? with
    | some (.lst l) => (subs n (rsv n μ k) l).map .lst
    | some (.dct ks l) => (subs n (rsv n μ k) l).map (.dct ks)
    | some (.obj c ns l) => (subs n (rsv n μ k) l).map (.obj c ns)
    | _ => none
def subM (n : Nat) (f : Nat → Option D) : M → Option M
  | .lst l => (subs n f l).map .lst
  | .dct ks l => (subs n f l).map (.dct ks)
  | .obj c ns l => (subs n f l).map (.obj c ns)
  | .dead => some .dead
  | .dcT ks l => (subs n f l).map (.dcT ks)
  | .lck ks l => (subs n f l).map (.lck ks)
def subMs (n : Nat) (f : Nat → Option D) : List M → Option (List M)
  | [] => some []
  | m :: r => match subM n f m, subMs n f r with
    | some m', some r' => some (m' :: r')
    | _, _ => none
mutual
theorem sub_clean {n : Nat} {f : Nat → Option D} : ∀ d : D, clean n d = true → sub n f d = some d
  | .cel i, h => by unfold clean at h; unfold sub; rw [if_pos (of_decide_eq_true h)]
  | .tup l, h => by unfold clean at h; unfold sub; rw [subs_clean l h]; rfl
  | .lst l, h => by unfold clean at h; unfold sub; rw [subs_clean l h]; rfl
  | .dct ks l, h => by unfold clean at h; unfold sub; rw [subs_clean l h]; rfl
  | .obj c ns l, h => by unfold clean at h; unfold sub; rw [subs_clean l h]; rfl
  | .exc c ns l, h => by unfold clean at h; cases h
  | .non, _ => rfl
  | .txt, _ => rfl
  | .bl _, _ => rfl
  | .int _, _ => rfl
  | .str _, _ => rfl
  | .ty _, _ => rfl
  | .glo _, _ => rfl
  | .scr _, _ => rfl
theorem subs_clean {n : Nat} {f : Nat → Option D} : ∀ l : List D, cleans n l = true → subs n f l = some l
  | [], _ => rfl
  | d :: l, h => by
    unfold cleans at h
    have h' := Bool.and_eq_true_iff.mp h
    unfold subs
    rw [sub_clean d h'.1, subs_clean l h'.2]
end
/-- what stands of the answer and of the caller's cells, behind the call -/
def finD (n : Nat) (μ : List M) (d : D) : Option (D × List M) := match sub n (rsv n μ 20) d, subMs n (rsv n μ 20) (μ.take n) with
  | some d', some μ' => some (d', μ')
  | _, _ => none
def finL (n : Nat) (μ : List M) (l : List D) : Option (List D × List M) := match subs n (rsv n μ 20) l, subMs n (rsv n μ 20) (μ.take n) with
  | some d', some μ' => some (d', μ')
  | _, _ => none
def fin (n : Nat) : SO → Out D
  | .rt d μ => match finD n μ d with
    | some (d', μ') => .ok d' μ'
    | none => .stuck
  | .nx _ μ => match finD n μ .non with
    | some (d', μ') => .ok d' μ'
    | none => .stuck
  | .ex x ns l _ μ => match finL n μ l with
    | some (l', μ') => .ex x ns l' μ'
    | none => .stuck
  | _ => .stuck
theorem subMs_clean {n : Nat} {f : Nat → Option D} : ∀ l : List M, l.all (cleanM n) = true → subMs n f l = some l
  | [], _ => rfl
  | m :: r, h => by
    rw [List.all_cons] at h
    have h' := Bool.and_eq_true_iff.mp h
    have e : subM n f m = some m := by
      cases m with
      | lst l => dsimp only [subM]; rw [subs_clean l h'.1]; rfl
      | dct ks l => dsimp only [subM]; rw [subs_clean l h'.1]; rfl
      | obj c ns l => dsimp only [subM]; rw [subs_clean l h'.1]; rfl
      | dead => rfl
      | dcT ks l => dsimp only [subM]; rw [subs_clean l h'.1]; rfl
      | lck ks l => dsimp only [subM]; rw [subs_clean l h'.1]; rfl
    unfold subMs
    rw [e, subMs_clean r h'.2]
theorem fin_rt {n : Nat} {μ : List M} {d : D} (h : clean n d = true) (h' : (μ.take n).all (cleanM n) = true) : fin n (.rt d μ) = .ok d (μ.take n) := by
  dsimp only [fin, finD]
  rw [sub_clean d h, subMs_clean _ h']
theorem fin_nx {n : Nat} {e : En} {μ : List M} (h' : (μ.take n).all (cleanM n) = true) : fin n (.nx e μ) = .ok .non (μ.take n) := by
  dsimp only [fin, finD]
  rw [sub_clean .non rfl, subMs_clean _ h']
theorem fin_ex {n : Nat} {x : Str} {ns : List Str} {l : List D} {e : En} {μ : List M} (h : cleans n l = true) (h' : (μ.take n).all (cleanM n) = true) : fin n (.ex x ns l e μ) = .ex x ns l (μ.take n) := by
  dsimp only [fin, finL]
  rw [subs_clean l h, subMs_clean _ h']
section
variable {S : Sx} {c : Cf} {μ : List M}
/-- all cells from n on become data -/
def froz (c : Cf) (n : Nat) : Cf := ⟨c.io.take n, fun p => if p ∈ c.io.drop n then c.H p else c.F p, c.H⟩
theorem froz_ex (I : SI S c μ) (n : Nat) : Ex c.F (froz c n).F := fun a o h => by
  show (if a ∈ c.io.drop n then c.H a else c.F a) = some o
  by_cases m : a ∈ c.io.drop n
  · rw [if_pos m]; exact I.ex a o h
  · rw [if_neg m]; exact h
variable {n : Nat}
mutual
theorem sub_rep (I : SI S c μ) {f : Nat → Option D} (hf : ∀ i d' v, n ≤ i → f i = some d' → rep S c.io c.F (.cel i) v → rep S (froz c n).io (froz c n).F d' v) :
    ∀ (d : D) {d' : D} {v : V}, sub n f d = some d' → rep S c.io c.F d v → rep S (froz c n).io (froz c n).F d' v
  | .cel i, d', v, e, r => by
    unfold sub at e
    by_cases h : i < n
    · rw [if_pos h] at e
      cases e
      unfold rep at r ⊢
      obtain ⟨a, h1, h2⟩ := r
      refine ⟨a, h1, ?_⟩
      show (c.io.take n)[i]? = some a
      rw [List.getElem?_take_of_lt h]; exact h2
    · rw [if_neg h] at e
      exact hf i d' v (by omega) e r
  | .tup l, d', v, e, r => by
    unfold sub at e
    cases el : subs n f l with
    | none => rw [el] at e; cases e
    | some l' =>
      rw [el] at e; cases e
      unfold rep at r ⊢
      obtain ⟨a, xs, h1, h2, h3⟩ := r
      exact ⟨a, xs, h1, ex_t (froz_ex I n) h2, subs_rep I hf l el h3⟩
  | .lst l, d', v, e, r => by
    unfold sub at e
    cases el : subs n f l with
    | none => rw [el] at e; cases e
    | some l' =>
      rw [el] at e; cases e
      unfold rep at r ⊢
      obtain ⟨a, xs, h1, h2, h3⟩ := r
      exact ⟨a, xs, h1, froz_ex I n _ _ h2, subs_rep I hf l el h3⟩
  | .dct ks l, d', v, e, r => by
    unfold sub at e
    cases el : subs n f l with
    | none => rw [el] at e; cases e
    | some l' =>
      rw [el] at e; cases e
      unfold rep at r ⊢
      obtain ⟨a, xs, h1, h2, h3, h4⟩ := r
      exact ⟨a, xs, h1, froz_ex I n _ _ h2, h3, subs_rep I hf l el h4⟩
  | .obj cl ns l, d', v, e, r => by
    unfold sub at e
    cases el : subs n f l with
    | none => rw [el] at e; cases e
    | some l' =>
      rw [el] at e; cases e
      unfold rep at r ⊢
      obtain ⟨a, dx, fs, h1, h2, h3, h4, h5⟩ := r
      exact ⟨a, dx, fs, h1, froz_ex I n _ _ h2, h3, subs_rep I hf l el h4, h5⟩
  | .exc cl ns l, d', v, e, r => by
    unfold sub at e
    cases el : subs n f l with
    | none => rw [el] at e; cases e
    | some l' =>
      rw [el] at e; cases e
      unfold rep at r ⊢
      obtain ⟨a, oe, d, h1, h2, h3, h4, h5⟩ := r
      refine ⟨a, oe, d, h1, h2, h3, h4, ?_⟩
      rcases h5 with ⟨h5, h6, h7⟩ | ⟨dd, fs, h5, h6, h7, h8⟩
      · subst h6
        cases (show subs n f [] = some l' from el)
        exact Or.inl ⟨h5, rfl, h7⟩
      · exact Or.inr ⟨dd, fs, h5, froz_ex I n _ _ h6, h7, subs_rep I hf l el h8⟩
  | .non, d', v, e, r => by cases (show some D.non = some d' from e); unfold rep at r ⊢; exact r
  | .txt, d', v, e, r => by cases (show some D.txt = some d' from e); unfold rep at r ⊢; exact r
  | .bl _, d', v, e, r => by cases (show some (D.bl _) = some d' from e); unfold rep at r ⊢; exact r
  | .int _, d', v, e, r => by cases (show some (D.int _) = some d' from e); unfold rep at r ⊢; exact r
  | .str _, d', v, e, r => by cases (show some (D.str _) = some d' from e); unfold rep at r ⊢; exact r
  | .ty _, d', v, e, r => by cases (show some (D.ty _) = some d' from e); unfold rep at r ⊢; exact r
  | .glo _, d', v, e, r => by cases (show some (D.glo _) = some d' from e); unfold rep at r ⊢; exact r
  | .scr _, d', v, e, r => by
    cases (show some (D.scr _) = some d' from e)
    unfold rep at r ⊢
    obtain ⟨a, h1, h2⟩ := r
    exact ⟨a, h1, ex_l (froz_ex I n) h2⟩
theorem subs_rep (I : SI S c μ) {f : Nat → Option D} (hf : ∀ i d' v, n ≤ i → f i = some d' → rep S c.io c.F (.cel i) v → rep S (froz c n).io (froz c n).F d' v) :
    ∀ (l : List D) {l' : List D} {xs : List V}, subs n f l = some l' → reps S c.io c.F l xs → reps S (froz c n).io (froz c n).F l' xs
  | [], l', xs, e, r => by
    cases (show some [] = some l' from e)
    rw [r.eq_nil]; exact .nil
  | d :: l, l', xs, e, r => by
    obtain ⟨x, q, rfl, r1, r2⟩ := r.uncons
    unfold subs at e
    cases e1 : sub n f d with
    | none => rw [e1] at e; cases e
    | some d1 =>
      rw [e1] at e
      cases e2 : subs n f l with
      | none => rw [e2] at e; cases e
      | some l1 =>
        rw [e2] at e
        cases e
        exact .cons (sub_rep I hf d e1 r1) (subs_rep I hf l e2 r2)
end
theorem rsv_rep (I : SI S c μ) : ∀ (k : Nat) (i : Nat) (d' : D) (v : V), n ≤ i → rsv n μ k i = some d' → rep S c.io c.F (.cel i) v → rep S (froz c n).io (froz c n).F d' v
  | 0, _, _, _, _, e, _ => by cases e
  | k + 1, i, d', v, hi, e, r => by
    have ih := rsv_rep I k
    unfold rep at r
    obtain ⟨a, rfl, h2⟩ := r
    have md : a ∈ c.io.drop n := by
      refine List.mem_of_getElem? (i := i - n) ?_
      rw [List.getElem?_drop, show n + (i - n) = i by omega]; exact h2
    have hF : (froz c n).F a = c.H a := by
      show (if a ∈ c.io.drop n then c.H a else c.F a) = c.H a
      rw [if_pos md]
    unfold rsv at e
    cases em : μ[i]? with
    | none => rw [em] at e; cases e
    | some m =>
      rw [em] at e
      cases m with
      | lst l =>
        dsimp only at e
        cases el : subs n (rsv n μ k) l with
        | none => rw [el] at e; cases e
        | some l' =>
          rw [el] at e; cases e
          obtain ⟨_, xs, k2, k3⟩ := I.cell i a _ h2 em
          unfold rep
          exact ⟨a, xs, rfl, hF.trans k2, subs_rep I ih l el k3⟩
      | dct ks l =>
        dsimp only at e
        cases el : subs n (rsv n μ k) l with
        | none => rw [el] at e; cases e
        | some l' =>
          rw [el] at e; cases e
          obtain ⟨_, xs, k2, k3, k4⟩ := I.cell i a _ h2 em
          unfold rep
          exact ⟨a, xs, rfl, hF.trans k2, k3, subs_rep I ih l el k4⟩
      | obj x ns l =>
        dsimp only at e
        cases el : subs n (rsv n μ k) l with
        | none => rw [el] at e; cases e
        | some l' =>
          rw [el] at e; cases e
          obtain ⟨_, dx, fs, k2, k3, k4⟩ := I.cell i a _ h2 em
          unfold rep
          exact ⟨a, dx, fs, rfl, hF.trans k2, k3, subs_rep I ih l el k4, I.cls i x ns l em⟩
      | dead => cases e
      | dcT _ _ => cases e
      | lck _ _ => cases e
theorem subMs_get {f : Nat → Option D} : ∀ {l l' : List M} {i : Nat} {m : M}, subMs n f l = some l' → l'[i]? = some m → ∃ m0, l[i]? = some m0 ∧ subM n f m0 = some m
  | [], l', i, m, e, h => by cases (show some [] = some l' from e); cases h
  | m0 :: r, l', i, m, e, h => by
    unfold subMs at e
    cases e1 : subM n f m0 with
    | none => rw [e1] at e; cases e
    | some m1 =>
      rw [e1] at e
      cases e2 : subMs n f r with
      | none => rw [e2] at e; cases e
      | some r1 =>
        rw [e2] at e; cases e
        cases i with
        | zero => simp at h; subst h; exact ⟨m0, rfl, e1⟩
        | succ i => exact subMs_get (i := i) e2 (by simpa using h)
theorem subMs_len {f : Nat → Option D} : ∀ {l l' : List M}, subMs n f l = some l' → l'.length = l.length
  | [], l', e => by cases (show some [] = some l' from e); rfl
  | m0 :: r, l', e => by
    unfold subMs at e
    cases e1 : subM n f m0 with
    | none => rw [e1] at e; cases e
    | some m1 =>
      rw [e1] at e
      cases e2 : subMs n f r with
      | none => rw [e2] at e; cases e
      | some r1 =>
        rw [e2] at e; cases e
        rw [List.length_cons, List.length_cons, subMs_len e2]
theorem froz_SI (I : SI S c μ) {f : Nat → Option D} (hf : ∀ i d' v, n ≤ i → f i = some d' → rep S c.io c.F (.cel i) v → rep S (froz c n).io (froz c n).F d' v) {μ' : List M} (e : subMs n f (μ.take n) = some μ') : SI S (froz c n) μ' := by
  refine ⟨fun a o h => ?_, ?_, I.nd.sublist (List.take_sublist _ _), fun i a m h1 h2 => ?_, fun i x ns l h => ?_⟩
  · have h : (if a ∈ c.io.drop n then c.H a else c.F a) = some o := h
    by_cases md : a ∈ c.io.drop n
    · rw [if_pos md] at h; exact h
    · rw [if_neg md] at h; exact I.ex a o h
  · show (c.io.take n).length = μ'.length
    rw [subMs_len e, List.length_take, List.length_take, I.len]
  · have h1 : (c.io.take n)[i]? = some a := h1
    have hi : i < n := by
      have := (List.getElem?_eq_some_iff.mp h1).1
      rw [List.length_take] at this; omega
    rw [List.getElem?_take_of_lt hi] at h1
    obtain ⟨m0, k1, k2⟩ := subMs_get e h2
    rw [List.getElem?_take_of_lt hi] at k1
    have nd : a ∉ c.io.drop n := fun md => by
      obtain ⟨j, hj, ej⟩ := List.getElem_of_mem md
      have e2 : c.io[n + j]? = some a := by
        rw [← List.getElem?_drop, List.getElem?_eq_getElem hj, ej]
      have := nodup_at I.nd h1 e2
      omega
    have k := I.cell i a m0 h1 k1
    have hF : c.F a = none → (froz c n).F a = none := fun z => by
      show (if a ∈ c.io.drop n then c.H a else c.F a) = none
      rw [if_neg nd]; exact z
    cases m0 with
    | lst l =>
      obtain ⟨z1, xs, z2, z3⟩ := k
      dsimp only [subM] at k2
      cases el : subs n f l with
      | none => rw [el] at k2; cases k2
      | some l' =>
        rw [el] at k2; cases k2
        exact ⟨hF z1, xs, z2, subs_rep I hf l el z3⟩
    | dct ks l =>
      obtain ⟨z1, xs, z2, z3, z4⟩ := k
      dsimp only [subM] at k2
      cases el : subs n f l with
      | none => rw [el] at k2; cases k2
      | some l' =>
        rw [el] at k2; cases k2
        exact ⟨hF z1, xs, z2, z3, subs_rep I hf l el z4⟩
    | obj x ns l =>
      obtain ⟨z1, dx, fs, z2, z3, z4⟩ := k
      dsimp only [subM] at k2
      cases el : subs n f l with
      | none => rw [el] at k2; cases k2
      | some l' =>
        rw [el] at k2; cases k2
        exact ⟨hF z1, dx, fs, z2, z3, subs_rep I hf l el z4⟩
    | dead => cases k2; exact k
    | dcT ks l =>
      obtain ⟨z1, xs, z2, z3, z4, z5⟩ := k
      dsimp only [subM] at k2
      cases el : subs n f l with
      | none => rw [el] at k2; cases k2
      | some l' =>
        rw [el] at k2; cases k2
        exact ⟨hF z1, xs, z2, z3, fun e he => ex_t (froz_ex I n) (z4 e he), subs_rep I hf l el z5⟩
    | lck ks l =>
      obtain ⟨od, u, vs, z1, z2, z3, z4⟩ := k
      dsimp only [subM] at k2
      cases el : subs n f l with
      | none => rw [el] at k2; cases k2
      | some l' =>
        rw [el] at k2; cases k2
        exact ⟨od, u, vs, froz_ex I n _ _ z1, z2, z3.mono (froz_ex I n), subs_rep I hf l el z4⟩
  · obtain ⟨m0, k1, k2⟩ := subMs_get e h
    have hi : i < n := by
      have := (List.getElem?_eq_some_iff.mp k1).1
      rw [List.length_take] at this; omega
    rw [List.getElem?_take_of_lt hi] at k1
    cases m0 with
    | obj x0 ns0 l0 =>
      dsimp only [subM] at k2
      cases el : subs n f l0 with
      | none => rw [el] at k2; cases k2
      | some l' => rw [el] at k2; cases k2; exact I.cls i _ _ _ k1
    | lst l0 =>
      dsimp only [subM] at k2
      cases el : subs n f l0 with
      | none => rw [el] at k2; cases k2
      | some l' => rw [el] at k2; cases k2
    | dct ks l0 =>
      dsimp only [subM] at k2
      cases el : subs n f l0 with
      | none => rw [el] at k2; cases k2
      | some l' => rw [el] at k2; cases k2
    | dcT ks l0 =>
      dsimp only [subM] at k2
      cases el : subs n f l0 with
      | none => rw [el] at k2; cases k2
      | some l' => rw [el] at k2; cases k2
    | lck ks l0 =>
      dsimp only [subM] at k2
      cases el : subs n f l0 with
      | none => rw [el] at k2; cases k2
      | some l' => rw [el] at k2; cases k2
    | dead => cases k2
end
end DL
/-! ### two ways to let exceptions out: none of them has a context (false), or they may (true) -/
namespace L2M
open PySem PySem.Spec PyProof.Rows L2
theorem held_imp {h B : Heap} {l : List Env} {a L : Addr} {Z Z' : Obj → Prop} (z : ∀ o, Z o → Z' o) (x : HandSPX.HeldZ B l a Z L h) : HandSPX.HeldZ B l a Z' L h :=
  ⟨x.1, x.2.1, x.2.2.1, L2H.tracedZ_imp z x.2.2.2⟩
theorem sky_imp {h B : Heap} {l : List Env} {a L : Addr} {Z Z' : Obj → Prop} (z : ∀ o, Z o → Z' o) (x : Sky B l a Z L h) : Sky B l a Z' L h := by
  rcases x with ⟨x1, x2, x3, oe, vs, x4, x5, x6⟩ | x | x
  · exact .inl ⟨x1, x2, x3, oe, vs, x4, z _ x5, x6⟩
  · exact .inr (.inl (L2H.flyingZ_imp z x))
  · exact .inr (.inr (held_imp z x))
def CX (md : Bool) (P : Program) (w : World) : CXT := match md with
  | true => L2.CX P w
  | false => L2N.CX P w
def Takes (md : Bool) (X : Cx) (W : WX) : Prop := match md with
  | true => L2.Takes X W
  | false => L2N.Takes X W
theorem takes_n {X : Cx} {W : WX} (h : L2.Takes X W) : L2N.Takes X W := fun u s' ⟨a, B, sI, pins, σ, H, cls, d, e, I, nb, up, sky, r⟩ =>
  h u s' ⟨a, B, sI, pins, σ, H, cls, d, e, I, nb, up, sky_imp (fun _ z => z.zc) sky, r⟩
theorem Takes.n {md : Bool} {X : Cx} {W : WX} (h : Takes md X W) : L2N.Takes X W := match md, h with
  | true, h => takes_n h
  | false, h => h
theorem passAt {md : Bool} {X : Cx} {W : WX} (tk : Takes md X W) (σ : L2.St) : PassesAt (CX md X.prog X.w) X σ (WE W σ) := match md, tk with
  | true, tk => L2.passAt tk σ
  | false, tk => L2N.passAt tk σ
theorem takes_of {md : Bool} {X : Cx} {E : XK} (hs : X.stack = X.env :: X.outer) (hf : X.env.frame = some X.env.locals) (hex : X.ex = []) {E₁ : Value → Shared → Prop}
    (hx : X.xe = fun e s' => wpAny (model X.prog X.w) X.A (leaving X.env e) (fun _ s'' => CX md X.prog X.w X.outer X.H_0 X.s_0 E e s'') E₁ s') : Takes md X (fun cls d _ H => E cls d H) := match md, hx with
  | true, hx => L2.takes_of hs hf hex hx
  | false, hx => L2N.takes_of hs hf hex hx
theorem cx_up {md : Bool} {P : Program} {w : World} {outer : List Env} {H : Hp} {s : Shared} {E : XK} {u : Value} {s' : Shared} (h : L2N.CX P w outer H s E u s') : CX md P w outer H s E u s' := match md with
  | false => h
  | true => by
    obtain ⟨a, B, H', cls, d, e, fl, r⟩ := h
    exact ⟨a, B, H', cls, d, e, L2H.flyingZ_imp (fun _ z => z.zc) fl, r⟩
theorem cx_top {md : Bool} {P : Program} {w : World} {outer : List Env} {H : Hp} {s : Shared} {E : XK} {u : Value} {s' : Shared} (h : CX md P w outer H s E u s') : CX true P w outer H s E u s' := match md, h with
  | true, h => h
  | false, h => cx_up (md := true) h
end L2M
namespace DL
open PySem PySem.Spec PyProof.Rows L2
/-! ### the same, at another number of cells -/
abbrev at0 (S : Sx) (n : Nat) : Sx := ⟨S.K, S.A, n, S.pn, S.cls⟩
section
variable {S : Sx} {n : Nat} {io : List Addr} {F : Hp}
mutual
theorem rep_at : ∀ (d : D) {v : V}, rep (at0 S n) io F d v ↔ rep S io F d v
  | .tup l, v => by
    unfold rep
    exact ⟨fun ⟨a, xs, h1, h2, h3⟩ => ⟨a, xs, h1, h2, (reps_at l).mp h3⟩, fun ⟨a, xs, h1, h2, h3⟩ => ⟨a, xs, h1, h2, (reps_at l).mpr h3⟩⟩
  | .lst l, v => by
    unfold rep
    exact ⟨fun ⟨a, xs, h1, h2, h3⟩ => ⟨a, xs, h1, h2, (reps_at l).mp h3⟩, fun ⟨a, xs, h1, h2, h3⟩ => ⟨a, xs, h1, h2, (reps_at l).mpr h3⟩⟩
  | .dct ks l, v => by
    unfold rep
    exact ⟨fun ⟨a, xs, h1, h2, h3, h4⟩ => ⟨a, xs, h1, h2, h3, (reps_at l).mp h4⟩, fun ⟨a, xs, h1, h2, h3, h4⟩ => ⟨a, xs, h1, h2, h3, (reps_at l).mpr h4⟩⟩
  | .obj c ns l, v => by
    unfold rep
    exact ⟨fun ⟨a, dx, xs, h1, h2, h3, h4, h5⟩ => ⟨a, dx, xs, h1, h2, h3, (reps_at l).mp h4, h5⟩, fun ⟨a, dx, xs, h1, h2, h3, h4, h5⟩ => ⟨a, dx, xs, h1, h2, h3, (reps_at l).mpr h4, h5⟩⟩
  | .exc c ns l, v => by
    unfold rep
    exact ⟨fun ⟨a, oe, d, h1, h2, h3, h4, h5⟩ => ⟨a, oe, d, h1, h2, h3, h4, h5.imp id fun ⟨dd, fs, k1, k2, k3, k4⟩ => ⟨dd, fs, k1, k2, k3, (reps_at l).mp k4⟩⟩,
      fun ⟨a, oe, d, h1, h2, h3, h4, h5⟩ => ⟨a, oe, d, h1, h2, h3, h4, h5.imp id fun ⟨dd, fs, k1, k2, k3, k4⟩ => ⟨dd, fs, k1, k2, k3, (reps_at l).mpr k4⟩⟩⟩
  | .non, v => by unfold rep; exact Iff.rfl
  | .txt, v => by unfold rep; exact Iff.rfl
  | .bl _, v => by unfold rep; exact Iff.rfl
  | .int _, v => by unfold rep; exact Iff.rfl
  | .str _, v => by unfold rep; exact Iff.rfl
  | .ty _, v => by unfold rep; exact Iff.rfl
  | .glo _, v => by unfold rep; exact Iff.rfl
  | .scr _, v => by unfold rep; exact Iff.rfl
  | .cel _, v => by unfold rep; exact Iff.rfl
theorem reps_at : ∀ (l : List D) {vs : List V}, reps (at0 S n) io F l vs ↔ reps S io F l vs
  | [], vs => by unfold reps; exact Iff.rfl
  | d :: l, vs => by
    unfold reps
    exact ⟨fun ⟨x, r, h1, h2, h3⟩ => ⟨x, r, h1, (rep_at d).mp h2, (reps_at l).mp h3⟩, fun ⟨x, r, h1, h2, h3⟩ => ⟨x, r, h1, (rep_at d).mpr h2, (reps_at l).mpr h3⟩⟩
end
theorem cell_at {c : Cf} {a : Addr} : ∀ {m : M}, cellOk (at0 S n) c a m ↔ cellOk S c a m
  | .lst l => ⟨fun ⟨h1, xs, h2, h3⟩ => ⟨h1, xs, h2, (reps_at l).mp h3⟩, fun ⟨h1, xs, h2, h3⟩ => ⟨h1, xs, h2, (reps_at l).mpr h3⟩⟩
  | .dct ks l => ⟨fun ⟨h1, xs, h2, h3, h4⟩ => ⟨h1, xs, h2, h3, (reps_at l).mp h4⟩, fun ⟨h1, xs, h2, h3, h4⟩ => ⟨h1, xs, h2, h3, (reps_at l).mpr h4⟩⟩
  | .obj x ns l => ⟨fun ⟨h1, dx, xs, h2, h3, h4⟩ => ⟨h1, dx, xs, h2, h3, (reps_at l).mp h4⟩, fun ⟨h1, dx, xs, h2, h3, h4⟩ => ⟨h1, dx, xs, h2, h3, (reps_at l).mpr h4⟩⟩
  | .dead => Iff.rfl
  | .dcT ks l => ⟨fun ⟨h1, xs, h2, h3, h4, h5⟩ => ⟨h1, xs, h2, h3, h4, (reps_at l).mp h5⟩, fun ⟨h1, xs, h2, h3, h4, h5⟩ => ⟨h1, xs, h2, h3, h4, (reps_at l).mpr h5⟩⟩
  | .lck ks l => ⟨fun ⟨od, u, vs, h1, h2, h3, h4⟩ => ⟨od, u, vs, h1, h2, h3, (reps_at l).mp h4⟩, fun ⟨od, u, vs, h1, h2, h3, h4⟩ => ⟨od, u, vs, h1, h2, h3, (reps_at l).mpr h4⟩⟩
theorem SI_at {c : Cf} {μ : List M} : SI (at0 S n) c μ ↔ SI S c μ :=
  ⟨fun h => ⟨h.ex, h.len, h.nd, fun i a m h1 h2 => cell_at.mp (h.cell i a m h1 h2), h.cls⟩, fun h => ⟨h.ex, h.len, h.nd, fun i a m h1 h2 => cell_at.mpr (h.cell i a m h1 h2), h.cls⟩⟩
theorem xrep_at {c : Cf} {ns : List Str} {l : List D} {dd : Option Addr} : xrep (at0 S n) c ns l dd ↔ xrep S c ns l dd :=
  ⟨fun h => h.imp id fun ⟨a, fs, h1, h2, h3, h4⟩ => ⟨a, fs, h1, h2, h3, (reps_at l).mp h4⟩, fun h => h.imp id fun ⟨a, fs, h1, h2, h3, h4⟩ => ⟨a, fs, h1, h2, h3, (reps_at l).mpr h4⟩⟩
/-- a callee's step is a caller's -/
theorem Step.up {c c' : Cf} (s : Step (at0 S c.io.length) c c') : Step S c c' :=
  ⟨s.pre, s.nd, s.exF, fun p h1 h2 h3 => by
    obtain ⟨i, hi, e⟩ := s.frz p h1 h2 h3
    exact absurd (List.getElem?_eq_some_iff.mp e).1 (Nat.not_lt.mpr hi), s.keep, s.new, s.som⟩
end
/-! ### what a def promises -/
def CQ (S : Sx) (c : Cf) (Q : VK) (E : XK) : Out D → Prop
  | .ok d μ => ∀ v c', Step (at0 S c.io.length) c c' → c'.io = c.io → SI S c' μ → rep S c'.io c'.F d v → Q v c'.H
  | .ex x ns l μ => ∀ dd c', Step (at0 S c.io.length) c c' → c'.io = c.io → SI S c' μ → xrep S c' ns l dd → E (.ref (S.A x)) dd c'.H
  | .stuck => False
abbrev GF := List D → List M → Out D
def spD (S : Sx) (np : Nat) (G : GF) : Sp := fun vs H Q E => ∃ ds io μ F, vs.length = np ∧ SI S ⟨io, F, H⟩ μ ∧ reps S io F ds vs ∧ CQ S ⟨io, F, H⟩ Q E (G ds μ)
def start (nN : Nat) (ds : List D) : En := ds.map some ++ List.replicate (nN - ds.length) none
def fnG (nN np : Nat) (body : DS) : GF := fun ds μ => if ds.length = np then fin μ.length (body (start nN ds) μ) else .stuck
theorem start_ok {S : Sx} {c : Cf} {N : List Str} {ds : List D} {vs : List V} (r : reps S c.io c.F ds vs) : EnvOk S c (start N.length ds) (L2.start N vs) := by
  refine ⟨?_, fun i d h => ?_⟩
  · unfold start L2.start
    rw [List.length_append, List.length_append, List.length_map, List.length_map, List.length_replicate, List.length_replicate, r.len]
  · unfold start at h
    by_cases hi : i < ds.length
    · rw [List.getElem?_append_left (by rw [List.length_map]; exact hi), List.getElem?_map] at h
      cases e : ds[i]? with
      | none => rw [e] at h; cases h
      | some d' =>
        rw [e] at h
        have hd : d' = d := by simpa using h
        subst hd
        obtain ⟨x, k1, k2⟩ := r.get e
        refine ⟨x, ?_, k2⟩
        unfold L2.start
        rw [List.getElem?_append_left (by rw [List.length_map, ← r.len]; exact hi), List.getElem?_map, k1]; rfl
    · rw [List.getElem?_append_right (by rw [List.length_map]; omega), List.getElem?_replicate] at h
      split at h <;> cases h
theorem froz_step {S : Sx} {c c' : Cf} {μ : List M} {n : Nat} (I : SI S c' μ) (hn : n = c.io.length) (s : Step (at0 S n) c c') : Step (at0 S n) c (froz c' n) ∧ (froz c' n).io = c.io := by
  have e : c'.io.take n = c.io := by
    obtain ⟨z, e⟩ := s.pre
    rw [← e, hn, List.take_left]
  refine ⟨⟨?_, I.nd.sublist (List.take_sublist _ _), s.exF.trans (froz_ex I n), fun p h1 h2 h3 => ?_, s.keep, fun p h1 h2 => ?_, s.som⟩, e⟩
  · show c.io <+: c'.io.take n
    rw [e]; exact List.prefix_refl _
  · have h3 : (if p ∈ c'.io.drop n then c'.H p else c'.F p) ≠ none := h3
    by_cases m : p ∈ c'.io.drop n
    · have m' : p ∈ c'.io := List.mem_of_mem_drop m
      have ni : p ∉ c.io := fun q => by
        rw [← e] at q
        have hnd := I.nd
        rw [← List.take_append_drop n c'.io] at hnd
        exact (List.nodup_append.mp hnd).2.2 p q p m rfl
      exact absurd (s.new p m' ni) h1
    · rw [if_neg m] at h3
      exact s.frz p h1 h2 h3
  · have h1 : p ∈ c'.io.take n := h1
    rw [e] at h1
    exact absurd h1 h2
theorem body_of {S : Sx} {c : Cf} {Q : VK} {E : XK} {n : Nat} (hn : n = c.io.length) : ∀ {o : SO}, CQ S c Q E (fin n o) → SQ (at0 S n) (fun cls d _ H => E cls d H) c { nx := fun _ H' => Q .non H', rt := Q } o
  | .rt d μ, h => fun v c' s I r => by
    dsimp only [fin] at h
    have I0 := SI_at.mp I
    cases e : finD n μ d with
    | none => rw [e] at h; exact False.elim h
    | some p =>
      obtain ⟨d', μ'⟩ := p
      rw [e] at h
      unfold finD at e
      cases e1 : sub n (rsv n μ 20) d with
      | none => rw [e1] at e; cases e
      | some d1 =>
        rw [e1] at e
        cases e2 : subMs n (rsv n μ 20) (μ.take n) with
        | none => rw [e2] at e; cases e
        | some μ1 =>
          rw [e2] at e; cases e
          obtain ⟨s2, ei⟩ := froz_step I0 hn s
          subst hn
          exact h v (froz c' c.io.length) s2 ei (froz_SI I0 (rsv_rep I0 20) e2) (sub_rep I0 (rsv_rep I0 20) d e1 ((rep_at d).mp r))
  | .nx en μ, h => fun σ' c' s I en' => by
    dsimp only [fin] at h
    have I0 := SI_at.mp I
    cases e : finD n μ .non with
    | none => rw [e] at h; exact False.elim h
    | some p =>
      obtain ⟨d', μ'⟩ := p
      rw [e] at h
      unfold finD at e
      cases e1 : sub n (rsv n μ 20) .non with
      | none => rw [e1] at e; cases e
      | some d1 =>
        rw [e1] at e
        cases e2 : subMs n (rsv n μ 20) (μ.take n) with
        | none => rw [e2] at e; cases e
        | some μ1 =>
          rw [e2] at e; cases e
          obtain ⟨s2, ei⟩ := froz_step I0 hn s
          subst hn
          exact h .non (froz c' c.io.length) s2 ei (froz_SI I0 (rsv_rep I0 20) e2) (sub_rep I0 (rsv_rep I0 20) .non e1 (rep_non.mpr rfl))
  | .ex x ns l en μ, h => fun dd σ' c' s I en' r => by
    dsimp only [fin] at h
    have I0 := SI_at.mp I
    cases e : finL n μ l with
    | none => rw [e] at h; exact False.elim h
    | some p =>
      obtain ⟨l', μ'⟩ := p
      rw [e] at h
      unfold finL at e
      cases e1 : subs n (rsv n μ 20) l with
      | none => rw [e1] at e; cases e
      | some d1 =>
        rw [e1] at e
        cases e2 : subMs n (rsv n μ 20) (μ.take n) with
        | none => rw [e2] at e; cases e
        | some μ1 =>
          rw [e2] at e; cases e
          obtain ⟨s2, ei⟩ := froz_step I0 hn s
          subst hn
          refine h dd (froz c' c.io.length) s2 ei (froz_SI I0 (rsv_rep I0 20) e2) ?_
          rcases xrep_at.mp r with ⟨h5, h6, h7⟩ | ⟨a, fs, h5, h6, h7, h8⟩
          · subst h6
            cases (show some [] = some l' from e1)
            exact Or.inl ⟨h5, rfl, h7⟩
          · exact Or.inr ⟨a, fs, h5, froz_ex I0 _ _ _ h6, h7, subs_rep I0 (rsv_rep I0 20) l e1 h8⟩
  | .bk _ _, h => False.elim h
  | .ct _ _, h => False.elim h
  | .stuck, h => False.elim h
section
variable {P : Program} {w : World} {K : PySem.W.Frag} {mg : Str → Option Value} {base : Heap} {x qual : Str} {params : Arguments} {body : List Stmt} {scope : Scope} {dvs : List V} {kws : List (Str × V)} {f : Addr} {fd : FuncData}
theorem fnD_ok {N ps : List Str} {k : Nat} {S : Sx} {D : DS} (F : FunD K x qual params body scope dvs kws f fd) (Sc : FnScope N ps scope)
    (hb : ∀ (n : Nat) (cdv : Value) (A : Around) (outer : List Env) (s : Shared) (H : Hp) (E : XK), Room k (A.deeper (envOfC qual scope s.heap.objs.size f cdv)) →
      PDSs (cxOf (L2M.CX md P w) P w K mg base N qual scope f cdv A outer s H E) (at0 S n) (fun cls d _ H => E cls d H) body D) :
    FnOk P w K mg base (L2M.CX md P w) (k + 1) f fd ps (spD S ps.length (fnG N.length ps.length D)) := by
  refine F.ok Sc (fun vs H Q E h => ?_) (fun cdv A outer s H vs Q E hr h => ?_)
  · obtain ⟨_, _, _, _, h, _⟩ := h
    exact h
  · obtain ⟨ds, io, μ, F0, hl, I, r, q⟩ := h
    obtain ⟨t, p, kk⟩ := (hb io.length cdv A outer s H E hr).ex
    refine ⟨t, p, kk (start N.length ds) (L2.start N vs) ⟨io, F0, H⟩ μ _ (SI_at.mpr I) (start_ok ((reps_at ds).mpr r)) ?_⟩
    have e : ds.length = ps.length := r.len.trans hl
    have q : CQ S ⟨io, F0, H⟩ Q E (if ds.length = ps.length then fin μ.length (D (start N.length ds) μ) else .stuck) := q
    rw [if_pos e, show μ.length = io.length from I.len.symm] at q
    exact body_of rfl q
end
/-! ### calls -/
def dCall (np : Nat) (G : GF) (dd : List D) (ds : DA) : DE := fun env μ => (ds env μ).bind fun l μ1 => if (l ++ dd).length = np then G (l ++ dd) μ1 else .stuck
theorem call_sp {S : Sx} {W : WX} {σ : St} {c : Cf} {μ : List M} {Q : VK} {np : Nat} {G : GF} {l : List D} {vs : List V} (I : SI S c μ) (r : reps S c.io c.F l vs) (hn : l.length = np) (q : EQ S W σ c Q (G l μ)) :
    spD S np G vs c.H Q (WE W σ) := by
  refine ⟨l, c.io, μ, c.F, by rw [← r.len]; exact hn, I, r, ?_⟩
  cases e : G l μ with
  | ok d μ' => rw [e] at q; exact fun v c' s _ I' r' => q v c' s.up I' r'
  | ex x ns l' μ' => rw [e] at q; exact fun dd c' s _ I' r' => q dd c' s.up I' r'
  | stuck => rw [e] at q; exact q
section
variable {X : Cx} {S : Sx} {W : WX} {e o : Expr} {es : List Expr} {da d : DE} {ds : DA} {pos p : Pos} {k : Nat} {x : Str} {f : Addr} {fd : FuncData} {ps : List Str} {np : Nat} {G : GF} {dd : List D} {dvs : List V} {dV : List Value}
/-- the defaults of a def -/
structure DflD (S : Sx) (K : PySem.W.Frag) (fd : FuncData) (ps : List Str) (dd : List D) : Prop where
  ex : ∃ (dvs : List V) (dV : List Value), Binds K fd ps dV ∧ Vals dvs dV ∧ ∀ io F, reps S io F dd dvs
theorem dfl_none {S : Sx} {K : PySem.W.Frag} (hb : Binds K fd ps []) : DflD S K fd ps [] := ⟨[], [], hb, .nil, fun _ _ => .nil⟩
theorem pd_call (F : FnOk X.prog X.w X.K X.mg X.base (L2M.CX md X.prog X.w) k f fd ps (spD (at0 S 0) np G)) (hr : Room k X.A) (tk : L2M.Takes md X W) (hg : Gl X x) (hm : X.mg x = some (.ref f)) (hk : PySem.W.keepIn X.K (.ref f) = true) (hb : DflD S X.K fd ps dd)
    (ha : PDA X S W (e :: es) ds) (hdb : (x == ("__debug__" : Str)) = false := by decide) (he : starEach (e :: es) X.env = (false, eval e X.env) :: starEach es X.env := by rfl) (hpl : (backTo pos (starEach es X.env)).any (·.1) = false := by rfl) :
    PDE X S W (.Call (.Name x p) (e :: es) [] pos) (dCall np G dd ds) := by
  obtain ⟨t, pa, ka⟩ := ha.ex
  obtain ⟨dvs, dV, h1, h2, h3⟩ := hb.ex
  refine ⟨_, pe_callSD F hr hg hm hk h1 h2 (fun σ => L2M.passAt tk σ) pa hdb he hpl, fun env σ c μ Q I en q => ?_⟩
  refine (show t σ c.H fun vs H1 => spD (at0 S 0) np G (vs ++ dvs) H1 Q (WE W σ) from ?_)
  refine bindAE (fun Q' => ka env σ c μ Q' I en) q fun l μ1 vs c1 s1 I1 r1 q1 => ?_
  by_cases hn : (l ++ dd).length = np
  · rw [if_pos hn] at q1
    obtain ⟨ds', io, μ', F', k1, k2, k3, k4⟩ := call_sp I1 (r1.append (h3 _ _)) hn q1
    refine ⟨ds', io, μ', F', k1, SI_at.mpr k2, (reps_at _).mpr k3, ?_⟩
    cases eo : G ds' μ' with
    | ok d μ2 => rw [eo] at k4; exact fun v c' s ei I' r' => k4 v c' s ei (SI_at.mp I') ((rep_at _).mp r')
    | ex y ns l' μ2 => rw [eo] at k4; exact fun dd c' s ei I' r' => k4 dd c' s ei (SI_at.mp I') (xrep_at.mp r')
    | stuck => rw [eo] at k4; exact k4
  · rw [if_neg hn] at q1; exact False.elim q1
end
end DL
namespace DL
open PySem PySem.Spec PyProof.Rows L2
section
variable {X : Cx} {S : Sx} {W : WX} {a b e o : Expr} {es : List Expr} {da db d : DE} {ds : DA} {pos p : Pos} {k : Nat}
/-! ### types -/
def tagOf (μ : List M) : D → Option Ty
  | .non => some (.inl "NoneType")
  | .bl _ => some (.inl "bool")
  | .int _ => some (.inl "int")
  | .str _ => some (.inl "str")
  | .txt => some (.inl "str")
  | .tup _ => some (.inl "tuple")
  | .lst _ => some (.inl "list")
  | .dct _ _ => some (.inl "dict")
  | .obj c _ _ => some (.inr c)
  | .cel i => match μ[i]? with
    | some (.lst _) => some (.inl "list")
    | some (.dct _ _) => some (.inl "dict")
    | some (.obj c _ _) => some (.inr c)
    | _ => none
  | _ => none
/-- what is known of an own class, for isinstance -/
structure InsF (K : PySem.W.Frag) (C : Addr) : Prop where
  cl : Cls K C
  ha : PySem.W.findIn K (.ref C) "__class__" = some (some (.builtin "object.__class__"))
  hn : PySem.W.specialIn K (.builtin "object.__class__") "__get__" = some (some (.builtin "getset_descriptor.__get__"))
  ht : PySem.W.takesIn K (.builtin "object.__class__") = some true
  hm : PySem.W.mroIn K C (.type "object") = some true
theorem tag_at {c : Cf} {μ : List M} {d : D} {v : V} {t : Ty} (hF : ∀ x ∈ S.cls, InsF S.K (S.A x)) (I : SI S c μ) (r : rep S c.io c.F d v) (h : tagOf μ d = some t) : TyX S.K c.H v (tyv S t) := by
  have own : ∀ {a dx : Addr} {fs : List (Str × V)} {x : Str}, c.H a = some (.ins (S.A x) dx fs) → x ∈ S.cls → TyX S.K c.H (.ref a) (tyv S (.inr x)) := fun {a dx fs x} e m => .base (.ins e (hF x m).cl (hF x m).ha (hF x m).hn (hF x m).ht (hF x m).hm)
  cases d with
  | non => cases (show some (Sum.inl "NoneType" : Ty) = some t from h); rw [rep_non.mp r]; exact .base .non
  | bl k => cases (show some (Sum.inl "bool" : Ty) = some t from h); rw [rep_bl.mp r]; exact .base (.bl _)
  | int k => cases (show some (Sum.inl "int" : Ty) = some t from h); rw [rep_int.mp r]; exact .base (.int _)
  | str k => cases (show some (Sum.inl "str" : Ty) = some t from h); rw [(rep_str.mp r).1]; exact .base (.str _)
  | txt =>
    cases (show some (Sum.inl "str" : Ty) = some t from h)
    unfold rep at r
    obtain ⟨m, rfl⟩ := r
    exact .base (.str _)
  | tup l =>
    cases (show some (Sum.inl "tuple" : Ty) = some t from h)
    unfold rep at r
    obtain ⟨a, xs, rfl, h2, _⟩ := r
    rcases h2 with (h2 | ⟨ob, h2⟩) | ⟨ob, its, n, h2, h3, _⟩
    · exact .base (.tup (I.ex _ _ h2))
    · exact .fTuple (I.ex _ _ h2)
    · exact .kTuple h2 h3
  | lst l =>
    cases (show some (Sum.inl "list" : Ty) = some t from h)
    unfold rep at r
    obtain ⟨a, xs, rfl, h2, _⟩ := r
    exact .base (.lst (I.ex _ _ h2))
  | dct ks l =>
    cases (show some (Sum.inl "dict" : Ty) = some t from h)
    unfold rep at r
    obtain ⟨a, xs, rfl, h2, _⟩ := r
    exact .base (.dK (I.ex _ _ h2))
  | obj x ns l =>
    cases (show some (Sum.inr x : Ty) = some t from h)
    unfold rep at r
    obtain ⟨a, dx, fs, rfl, h2, _, _, h5⟩ := r
    exact own (I.ex _ _ h2) h5
  | cel i =>
    unfold rep at r
    obtain ⟨a, rfl, h2⟩ := r
    dsimp only [tagOf] at h
    cases e : μ[i]? with
    | none => rw [e] at h; cases h
    | some m =>
      rw [e] at h
      cases m with
      | lst l =>
        cases (show some (Sum.inl "list" : Ty) = some t from h)
        obtain ⟨_, xs, k2, _⟩ := I.cell i a _ h2 e
        exact .base (.lst k2)
      | dct ks l =>
        cases (show some (Sum.inl "dict" : Ty) = some t from h)
        obtain ⟨_, xs, k2, _⟩ := I.cell i a _ h2 e
        exact .base (.dK k2)
      | obj x ns l =>
        cases (show some (Sum.inr x : Ty) = some t from h)
        obtain ⟨_, dx, fs, k2, _⟩ := I.cell i a _ h2 e
        exact own k2 (I.cls i _ _ _ e)
      | dead => cases h
      | dcT _ _ => cases h
      | lck _ _ => cases h
  | _ => cases h
/-! ### calls of built-ins -/
structure PDB (X : Cx) (S : Sx) (f : Value) (g : List M → List D → Option D) : Prop where
  ex : ∃ r, CallR X f r ∧ ∀ c μ xs l d Q, SI S c μ → reps S c.io c.F l xs → g μ l = some d → (∀ v c', Step S c c' → SI S c' μ → rep S c'.io c'.F d v → Q v c'.H) → r xs c.H Q
def dBlt (g : List M → List D → Option D) (ds : DA) : DE := fun env μ => (ds env μ).bind fun l μ1 => match g μ1 l with
  | some d => .ok d μ1
  | none => .stuck
theorem blt_run {r : List V → Hp → VK → Prop} {g : List M → List D → Option D} {ta : TA}
    (hr : ∀ c μ xs l d Q, SI S c μ → reps S c.io c.F l xs → g μ l = some d → (∀ v c', Step S c c' → SI S c' μ → rep S c'.io c'.F d v → Q v c'.H) → r xs c.H Q)
    (ka : ∀ env σ c μ Q, SI S c μ → EnvOk S c env σ → AQ S W σ c Q (ds env μ) → ta σ c.H Q) : ∀ env σ c μ Q, SI S c μ → EnvOk S c env σ → EQ S W σ c Q (dBlt g ds env μ) → tCB r ta σ c.H Q := by
  intro env σ c μ Q I en q
  refine (show ta σ c.H fun vs H1 => r vs H1 Q from ?_)
  refine bindAE (fun Q' => ka env σ c μ Q' I en) q fun l μ1 vs c1 s1 I1 r1 q1 => ?_
  cases e1 : g μ1 l with
  | none => rw [e1] at q1; exact False.elim q1
  | some d =>
    rw [e1] at q1
    exact hr c1 μ1 vs l d Q I1 r1 e1 q1
theorem pd_blt {x : Str} {id : String} {g : List M → List D → Option D} (o : PDB X S (.builtin id) g) (hg : Gl X x) (hm : X.mg x = none) (hv : bootBuiltins x = some (.builtin id)) (ha : PDA X S W (e :: es) ds)
    (hx : x ≠ "__name__" := by decide) (hdb : (x == ("__debug__" : Str)) = false := by decide) (he : starEach (e :: es) X.env = (false, eval e X.env) :: starEach es X.env := by rfl) (hpl : (backTo pos (starEach es X.env)).any (·.1) = false := by rfl) :
    PDE X S W (.Call (.Name x p) (e :: es) [] pos) (dBlt g ds) := by
  obtain ⟨r, hr, kr⟩ := o.ex
  obtain ⟨t, pa, ka⟩ := ha.ex
  exact ⟨_, pe_callB hr hg hm hv pa hx hdb he hpl, blt_run kr ka⟩
theorem pd_bty {x : Str} {T : String} {g : List M → List D → Option D} (o : PDB X S (.type T) g) (hg : Gl X x) (hm : X.mg x = none) (hv : bootBuiltins x = some (.type T)) (ha : PDA X S W (e :: es) ds)
    (hx : x ≠ "__name__" := by decide) (hdb : (x == ("__debug__" : Str)) = false := by decide) (he : starEach (e :: es) X.env = (false, eval e X.env) :: starEach es X.env := by rfl) (hpl : (backTo pos (starEach es X.env)).any (·.1) = false := by rfl) :
    PDE X S W (.Call (.Name x p) (e :: es) [] pos) (dBlt g ds) := by
  obtain ⟨r, hr, kr⟩ := o.ex
  obtain ⟨t, pa, ka⟩ := ha.ex
  exact ⟨_, pe_callTy hr hg hm hv pa hx hdb he hpl, blt_run kr ka⟩
/-- a built-in class as a value -/
theorem pd_bvl {x : Str} {T : String} (hg : Gl X x) (hm : X.mg x = none) (hv : bootBuiltins x = some (.type T)) (hx : x ≠ "__name__" := by decide) (hdb : (x == ("__debug__" : Str)) = false := by decide) : PDE X S W (.Name x pos) (dC (.ty T)) :=
  of_tC (v := .ty T) (pe_bltn hg hm hv rfl hx hdb) fun _ _ => by unfold rep; rfl
/-- a def or class of the module as a value -/
theorem pd_glo {x : Str} (hg : Gl X x) (hm : X.mg x = some (.ref (S.A x))) (hdb : (x == ("__debug__" : Str)) = false := by decide) : PDE X S W (.Name x pos) (dC (.glo x)) :=
  of_tC (v := .ref (S.A x)) (pe_glob hg hm rfl hdb) fun _ _ => by unfold rep; rfl
/-! isinstance -/
def clsD : D → Option Ty
  | .ty n => some (.inl n)
  | .glo x => some (.inr x)
  | _ => none
def KitF (S : Sx) (u : Ty) : Prop := ∀ t ∈ tysOf S, PySem.W.kitOne S.K (tyv S t) (tyv S u) = some (isSub t u)
theorem tag_mem {c : Cf} {μ : List M} {d : D} {v : V} {t : Ty} (I : SI S c μ) (r : rep S c.io c.F d v) (h : tagOf μ d = some t) : t ∈ tysOf S := by
  have pl : ∀ n, n ∈ plainTys → (Sum.inl n : Ty) ∈ tysOf S := fun n m => List.mem_append_left _ (List.mem_map_of_mem m)
  have ow : ∀ x, x ∈ S.cls → (Sum.inr x : Ty) ∈ tysOf S := fun x m => List.mem_append_right _ (List.mem_map_of_mem m)
  cases d with
  | non => cases (show some (Sum.inl "NoneType" : Ty) = some t from h); exact pl _ (by decide)
  | bl k => cases (show some (Sum.inl "bool" : Ty) = some t from h); exact pl _ (by decide)
  | int k => cases (show some (Sum.inl "int" : Ty) = some t from h); exact pl _ (by decide)
  | str k => cases (show some (Sum.inl "str" : Ty) = some t from h); exact pl _ (by decide)
  | tup l => cases (show some (Sum.inl "tuple" : Ty) = some t from h); exact pl _ (by decide)
  | lst l => cases (show some (Sum.inl "list" : Ty) = some t from h); exact pl _ (by decide)
  | dct ks l => cases (show some (Sum.inl "dict" : Ty) = some t from h); exact pl _ (by decide)
  | obj x ns l =>
    cases (show some (Sum.inr x : Ty) = some t from h)
    unfold rep at r
    obtain ⟨a, dx, fs, _, _, _, _, h5⟩ := r
    exact ow x h5
  | txt => cases (show some (Sum.inl "str" : Ty) = some t from h); exact pl _ (by decide)
  | cel i =>
    dsimp only [tagOf] at h
    cases e : μ[i]? with
    | none => rw [e] at h; cases h
    | some m =>
      rw [e] at h
      cases m with
      | lst l => cases (show some (Sum.inl "list" : Ty) = some t from h); exact pl _ (by decide)
      | dct ks l => cases (show some (Sum.inl "dict" : Ty) = some t from h); exact pl _ (by decide)
      | obj x ns l => cases (show some (Sum.inr x : Ty) = some t from h); exact ow x (I.cls i _ _ _ e)
      | dead => cases h
      | dcT _ _ => cases h
      | lck _ _ => cases h
  | _ => cases h
/-- isinstance against the class u -/
def bIsU (u : Ty) (μ : List M) : List D → Option D
  | [x, c] => if clsD c = some u then match tagOf μ x with
    | some t => some (.bl (isSub t u))
    | none => none
    else none
  | _ => none
theorem pb_isi (hK : X.K = S.K) (hF : ∀ x ∈ S.cls, InsF S.K (S.A x)) {u : Ty} (hu : KitF S u) : PDB X S (.builtin "isinstance") (bIsU u) := by
  refine ⟨_, call_isi, fun c μ xs l d Q I r e k => ?_⟩
  unfold bIsU at e
  split at e
  · rename_i x cc
    split at e
    · rename_i hc
      cases et : tagOf μ x with
      | none => rw [et] at e; cases e
      | some t =>
        rw [et] at e
        obtain rfl := Option.some.inj e
        obtain ⟨v, r0, rfl, r1, r2⟩ := r.uncons
        obtain ⟨v2, r0, rfl, r3, r4⟩ := r2.uncons
        rw [r4.eq_nil]
        have cv : ClsV v2 (tyv S u) := by
          cases cc with
          | ty n => cases (show some (Sum.inl n : Ty) = some u from hc); rw [rep_ty.mp r3]; exact .ty n
          | glo x => cases (show some (Sum.inr x : Ty) = some u from hc); rw [rep_glo.mp r3]; exact .own _
          | _ => cases hc
        refine ⟨v, v2, tyv S t, tyv S u, isSub t u, rfl, cv, ?_, ?_, k _ c I.step I (rep_bl.mpr rfl)⟩
        · rw [hK]; exact tag_at hF I r1 et
        · rw [hK]; exact hu t (tag_mem I r1 et)
    · cases e
  · cases e
/-! len -/
def bLen (μ : List M) : List D → Option D
  | [.str z] => if z.length ≤ 100000 then some (.int z.length) else none
  | [x] => match seqOf μ x with
    | some l => some (.int l.length)
    | none => none
  | _ => none
theorem pb_len (hK : X.K = S.K) : PDB X S (.builtin "len") bLen := by
  refine ⟨_, call_len, fun c μ xs l d Q I r e k => ?_⟩
  unfold bLen at e
  split at e
  · rename_i z
    split at e
    · rename_i hz
      obtain rfl := Option.some.inj e
      obtain ⟨v, r0, rfl, r1, r2⟩ := r.uncons
      rw [r2.eq_nil, (rep_str.mp r1).1]
      exact ⟨_, _, rfl, ⟨sz_of hz, rfl⟩, k _ c I.step I (rep_int.mpr rfl)⟩
    · cases e
  · rename_i x _
    cases es : seqOf μ x with
    | none => rw [es] at e; cases e
    | some l =>
      rw [es] at e
      obtain rfl := Option.some.inj e
      obtain ⟨v, r0, rfl, r1, r2⟩ := r.uncons
      obtain ⟨a, xs, rfl, h2, h3⟩ := seq_at I r1 es
      rw [r2.eq_nil]
      refine ⟨_, l.length, rfl, ?_, k _ c I.step I (rep_int.mpr rfl)⟩
      rw [hK, h3.len]
      rcases h2 with h2 | h2
      · exact Or.inl ⟨xs, h2, rfl⟩
      · exact Or.inr ⟨xs, h2, rfl⟩
  · cases e
/-! int, min, max, list, tuple, divmod, all, any, str -/
def bInt (_ : List M) : List D → Option D
  | [.int i] => some (.int i)
  | [.bl b] => some (.int (if b = true then 1 else 0))
  | _ => none
def bMax (_ : List M) : List D → Option D
  | [.int i, .int j] => some (.int (if j > i then j else i))
  | _ => none
theorem pb_max (hc : X.calm = true) : PDB X S (.builtin "max") bMax := by
  refine ⟨_, call_max2 hc, fun c μ xs l d Q I r e k => ?_⟩
  unfold bMax at e
  split at e
  · obtain rfl := Option.some.inj e
    obtain ⟨v, r0, rfl, r1, r2⟩ := r.uncons
    obtain ⟨v2, r0, rfl, r3, r4⟩ := r2.uncons
    rw [r4.eq_nil, rep_int.mp r1, rep_int.mp r3]
    exact ⟨_, _, rfl, k _ c I.step I (rep_int.mpr rfl)⟩
  · cases e
def bools : List D → Option (List Bool)
  | [] => some []
  | .bl b :: l => (bools l).map (b :: ·)
  | _ => none
theorem bools_at {io : List Addr} {F : Hp} : ∀ {l : List D} {xs : List V} {bs : List Bool}, reps S io F l xs → bools l = some bs → xs = bs.map V.bl
  | [], xs, bs, r, e => by cases (show some [] = some bs from e); rw [r.eq_nil]; rfl
  | .bl b :: l, xs, bs, r, e => by
    cases eb : bools l with
    | none => unfold bools at e; rw [eb] at e; cases e
    | some bs' =>
      unfold bools at e
      rw [eb] at e
      cases e
      obtain ⟨x, q, rfl, r1, r2⟩ := r.uncons
      rw [rep_bl.mp r1, bools_at r2 eb]; rfl
  | .non :: _, _, _, _, e => by cases e
  | .txt :: _, _, _, _, e => by cases e
  | .int _ :: _, _, _, _, e => by cases e
  | .str _ :: _, _, _, _, e => by cases e
  | .ty _ :: _, _, _, _, e => by cases e
  | .glo _ :: _, _, _, _, e => by cases e
  | .tup _ :: _, _, _, _, e => by cases e
  | .lst _ :: _, _, _, _, e => by cases e
  | .dct _ _ :: _, _, _, _, e => by cases e
  | .obj _ _ _ :: _, _, _, _, e => by cases e
  | .cel _ :: _, _, _, _, e => by cases e
  | .scr _ :: _, _, _, _, e => by cases e
  | .exc _ _ _ :: _, _, _, _, e => by cases e
def bAll (μ : List M) : List D → Option D
  | [x] => match lstOf μ x with
    | some l => (bools l).map fun bs => .bl (bs.all id)
    | none => none
  | _ => none
def bAny (μ : List M) : List D → Option D
  | [x] => match lstOf μ x with
    | some l => (bools l).map fun bs => .bl (bs.any id)
    | none => none
  | _ => none
theorem pb_all (hK : X.K = S.K) (hc : X.calm = true) : PDB X S (.builtin "all") bAll := by
  refine ⟨_, cr_all hc, fun c μ xs l d Q I r e k => ?_⟩
  unfold bAll at e
  split at e
  · rename_i x
    cases es : lstOf μ x with
    | none => rw [es] at e; cases e
    | some l =>
      rw [es] at e
      dsimp only at e
      cases eb : bools l with
      | none => rw [eb] at e; cases e
      | some bs =>
        rw [eb] at e
        obtain rfl := Option.some.inj e
        obtain ⟨v, r0, rfl, r1, r2⟩ := r.uncons
        obtain ⟨a, ys, rfl, h2, h3⟩ := lst_at I r1 es
        rw [bools_at h3 eb] at h2
        rw [r2.eq_nil]
        exact ⟨a, bs, rfl, by rw [hK]; exact sq_of h2, k _ c I.step I (rep_bl.mpr rfl)⟩
  · cases e
theorem pb_any (hK : X.K = S.K) (hc : X.calm = true) : PDB X S (.builtin "any") bAny := by
  refine ⟨_, cr_any hc, fun c μ xs l d Q I r e k => ?_⟩
  unfold bAny at e
  split at e
  · rename_i x
    cases es : lstOf μ x with
    | none => rw [es] at e; cases e
    | some l =>
      rw [es] at e
      dsimp only at e
      cases eb : bools l with
      | none => rw [eb] at e; cases e
      | some bs =>
        rw [eb] at e
        obtain rfl := Option.some.inj e
        obtain ⟨v, r0, rfl, r1, r2⟩ := r.uncons
        obtain ⟨a, ys, rfl, h2, h3⟩ := lst_at I r1 es
        rw [bools_at h3 eb] at h2
        rw [r2.eq_nil]
        exact ⟨a, bs, rfl, by rw [hK]; exact sq_of h2, k _ c I.step I (rep_bl.mpr rfl)⟩
  · cases e
theorem okS_of (s : String) : okS (Str.ofString s) = true := by
  have e : Str.ofString s = ⟨(s.toList.map Char.toNat).toArray⟩ := by
    first
    | exact Str.ofString_eq_toList s
    | exact PySem.Str.ofString_eq_toList s
  rw [e]
  unfold okS
  rw [← Array.all_toList, List.all_eq_true]
  intro n hn
  have hn' : n ∈ s.toList.map Char.toNat := by simpa using hn
  obtain ⟨ch, _, rfl⟩ := List.mem_map.mp hn'
  have hv := ch.valid
  have h2 : ch.toNat < 0x110000 := by
    rcases hv with h1 | h1
    · have : ch.toNat < 0xd800 := h1
      omega
    · exact h1.2
  exact decide_eq_true h2
end
end DL
namespace DL
open PySem PySem.Spec PyProof.Rows L2
section
variable {X : Cx} {S : Sx} {W : WX} {a b e o : Expr} {es : List Expr} {da db d : DE} {ds : DA} {pos p : Pos} {k : Nat} {x : Str} {f : Addr} {fd : FuncData} {ps : List Str} {np : Nat} {G : GF} {dd : List D}
/-! ### o.f = e -/
def putD (f : Str) (d : D) : List Str → List D → List Str × List D
  | n :: ns, y :: l => if n = f then (n :: ns, d :: l) else ((n :: (putD f d ns l).1), (y :: (putD f d ns l).2))
  | _, _ => ([f], [d])
theorem putD_reps {io : List Addr} {F : Hp} {f : Str} {d : D} {v : V} (rd : rep S io F d v) : ∀ {fs : List (Str × V)} {ns : List Str} {l : List D}, fs.map (·.1) = ns → reps S io F l (fs.map (·.2)) →
    (putF f v fs).map (·.1) = (putD f d ns l).1 ∧ reps S io F (putD f d ns l).2 ((putF f v fs).map (·.2))
  | [], ns, l, e, r => by
    subst e
    cases l with
    | nil => exact ⟨rfl, .cons rd .nil⟩
    | cons y l => obtain ⟨_, _, z, _⟩ := r.uncons; cases z
  | (n, u) :: fs, ns, l, e, r => by
    subst e
    cases l with
    | nil => cases r.eq_nil
    | cons y l =>
      obtain ⟨z, q, e1, r1, r2⟩ := r.uncons
      cases e1
      show (if n = f then (n, v) :: fs else (n, u) :: putF f v fs).map (·.1) = (if n = f then (n :: fs.map (·.1), d :: l) else ((n :: (putD f d (fs.map (·.1)) l).1), (y :: (putD f d (fs.map (·.1)) l).2))).1 ∧
        reps S io F (if n = f then (n :: fs.map (·.1), d :: l) else ((n :: (putD f d (fs.map (·.1)) l).1), (y :: (putD f d (fs.map (·.1)) l).2))).2 ((if n = f then (n, v) :: fs else (n, u) :: putF f v fs).map (·.2))
      by_cases h : n = f
      · rw [if_pos h, if_pos h]
        exact ⟨rfl, .cons rd r2⟩
      · rw [if_neg h, if_neg h]
        obtain ⟨k1, k2⟩ := putD_reps rd (f := f) (fs := fs) rfl r2
        exact ⟨by show n :: (putF f v fs).map (·.1) = _; rw [k1], .cons r1 k2⟩
def sFldSet (f : Str) (da de : DE) : DS := fun env μ => (de env μ).bindS env fun y μ1 => (da env μ1).bindS env fun x μ2 => match x with
  | .cel i => match μ2[i]? with
    | some (.obj c ns l) => if ns.length < 1000 then .nx env (μ2.set i (.obj c (putD f y ns l).1 (putD f y ns l).2)) else .stuck
    | _ => .stuck
  | _ => .stuck
theorem pds_fld {f : Str} {pos' : Pos} (hK : X.K = S.K) (hc : ClsOk S f) (ha : PDE X S W o da) (he : PDE X S W e d) (hs : swapsWith e (some (.Attribute o f pos')) pos.line X.env = pure false := by rfl) : PDS X S W (.Assign [.Attribute o f pos'] e pos) (sFldSet f da d) := by
  obtain ⟨ta, pa, ka⟩ := ha.ex
  obtain ⟨te, pe, ke⟩ := he.ex
  refine ⟨_, ps_fld pa pe hs, fun env σ c μ E I en q => ?_⟩
  refine (show te σ c.H fun y H1 => ta σ H1 fun x H2 => ∃ a C dx fs, x = .ref a ∧ H2 a = some (.ins C dx fs) ∧ Cls X.K C ∧ NoAttr X.K C f ∧ fs.length < 1000 ∧ E.nx σ (upd H2 a (.ins C dx (putF f y fs))) from ?_)
  refine bindES en (fun Q' => ke env σ c μ Q' I en) q fun y μ1 u c1 s1 I1 r1 q1 => ?_
  refine bindES (en.step s1) (fun Q' => ka env σ c1 μ1 Q' I1 (en.step s1)) q1 fun x μ2 v c2 s2 I2 r2 q2 => ?_
  cases x with
  | cel i =>
    try dsimp only at q2
    cases e1 : μ2[i]? with
    | none => rw [e1] at q2; exact False.elim q2
    | some m =>
      rw [e1] at q2
      cases m with
      | obj cl ns l =>
        dsimp only at q2
        by_cases hl : ns.length < 1000
        · rw [if_pos hl] at q2
          unfold rep at r2
          obtain ⟨a, rfl, h2⟩ := r2
          obtain ⟨k1, dx, fs, k2, k3, k4⟩ := I2.cell i a _ h2 e1
          have hm := I2.cls i _ _ _ e1
          obtain ⟨z1, z2⟩ := putD_reps (f := f) (s2.rep r1) k3 k4
          obtain ⟨I3, s3⟩ := I2.write (o := .ins (S.A cl) dx (putF f u fs)) (m := .obj cl (putD f y ns l).1 (putD f y ns l).2) h2 k1 ⟨k1, dx, putF f u fs, upd_same, z1, z2⟩ (fun x2 ns2 l2 e2 => by cases e2; exact hm)
          refine ⟨a, S.A cl, dx, fs, rfl, k2, by rw [hK]; exact (hc cl hm).1, by rw [hK]; exact (hc cl hm).2, ?_, q2 σ _ s3 I3 (((en.step s1).step s2).step s3)⟩
          rw [← k3, List.length_map] at hl
          exact hl
        · rw [if_neg hl] at q2; exact False.elim q2
      | _ => exact False.elim q2
  | _ => exact False.elim q2
/-! ### C(..), frozen behind its making -/
/-- a new instance, its __init__ with the bound values -/
theorem make_go {CX : CXT} {C : Addr} {sp : Sp} {E : XK} {pins : List (Addr × Obj)} {σ : St} {H : Hp} {s : Shared} {Q : VK} {us bs : List Value} {bv : List V} {kw : List (Str × Value)} (M0 : Mk X.K C f) (F : FnOk X.prog X.w X.K X.mg X.base CX k f fd ps sp) (hr : Room (k + 1) X.A)
    (hb : ∀ (s2 : Shared) (self : Value), X.K.In s2.heap → bs.length + 1 = ps.length → BindsTo s2 fd ⟨self :: us, kw⟩ (ps.zip (self :: bs))) (hx : PassesAt CX X σ E) (I : Inv X pins σ H s) (r : Vals bv bs)
    (h : ∀ x dx, H x = none → H dx = none → dx ≠ x → sp (.ref x :: bv) (upd (upd H dx (.own x)) x (.ins C dx [])) (fun v H2 => v = .non ∧ Q (.ref x) H2) E) :
    wpAny (model X.prog X.w) X.A (call (.ref C) us kw) (EP X pins σ Q) X.xe s := by
  have ne : s.heap.objs.size ≠ s.heap.objs.size + 1 := Nat.ne_of_lt (Nat.lt_succ_self _)
  have here := h (s.heap.objs.size + 1) s.heap.objs.size (I.hok.fresh (Nat.le_succ _)) (I.hok.fresh (Nat.le_refl _)) ne
  have J := Inv.made (C := C) I
  have rr : Vals (V.ref (s.heap.objs.size + 1) :: bv) (Value.ref (s.heap.objs.size + 1) :: bs) := .cons rfl r
  have len : bs.length + 1 = ps.length := by
    have z := F.len _ _ _ _ here
    rw [rr.length, List.length_cons] at z
    exact z
  refine wpAny_call (make_map (f := f) I.kIn M0.makes M0.init (beq_iff_eq.mp M0.fn) ?_)
  refine codeAny_mono (F.run _ X.stack _ _ ⟨Value.ref (s.heap.objs.size + 1) :: us, kw⟩ (Value.ref (s.heap.objs.size + 1) :: bs) _ _ E (hr.make C us kw) (J.env0.make C us kw) (hb _ _ J.kIn len) rr here) fun res s' hq => ?_
  match res, hq with
  | .error e, hq => exact hx pins _ _ e s' J hq
  | .ok (.ret u), hq =>
    obtain ⟨v, H', I3, rv, ev, q3⟩ := J.after hq
    subst ev
    exact ⟨rv, ⟨V.ref (s.heap.objs.size + 1), H', I3, rfl, q3⟩⟩
  | .ok .next, hq => exact False.elim hq
  | .ok .brk, hq => exact False.elim hq
  | .ok .cont, hq => exact False.elim hq
def dMake (c : Str) (np : Nat) (G : GF) (dd : List D) (ds : DA) : DE := fun env μ => (ds env μ).bind fun l μ1 => if (l ++ dd).length + 1 = np then match G (.cel μ1.length :: (l ++ dd)) (μ1 ++ [.obj c [] []]) with
    | .ok .non μ2 => match finD μ1.length μ2 (.cel μ1.length) with
      | some (d, μ3) => .ok d μ3
      | none => .stuck
    | .ok _ _ => .stuck
    | .ex x ns l' μ2 => match finL μ1.length μ2 l' with
      | some (l2, μ3) => .ex x ns l2 μ3
      | none => .stuck
    | .stuck => .stuck
  else .stuck
/-- behind the making: the new cell becomes a datum -/
theorem froz_new {c c' : Cf} {μ : List M} {n : Nat} (I : SI S c' μ) (hn : n = c.io.length) (s : Step S c c') : Step S c (froz c' n) ∧ (froz c' n).io = c.io := by
  have e : c'.io.take n = c.io := by
    obtain ⟨z, e⟩ := s.pre
    rw [← e, hn, List.take_left]
  refine ⟨⟨?_, I.nd.sublist (List.take_sublist _ _), s.exF.trans (froz_ex I n), fun p h1 h2 h3 => ?_, s.keep, fun p h1 h2 => ?_, s.som⟩, e⟩
  · show c.io <+: c'.io.take n
    rw [e]; exact List.prefix_refl _
  · have h3 : (if p ∈ c'.io.drop n then c'.H p else c'.F p) ≠ none := h3
    by_cases m : p ∈ c'.io.drop n
    · have ni : p ∉ c.io := fun q => by
        rw [← e] at q
        have hnd := I.nd
        rw [← List.take_append_drop n c'.io] at hnd
        exact (List.nodup_append.mp hnd).2.2 p q p m rfl
      exact absurd (s.new p (List.mem_of_mem_drop m) ni) h1
    · rw [if_neg m] at h3
      exact s.frz p h1 h2 h3
  · have h1 : p ∈ c'.io.take n := h1
    rw [e] at h1
    exact absurd h1 h2
/-- from what is wanted of the making to what is wanted of __init__ -/
theorem make_sp {c : Str} {σ : St} {c1 : Cf} {μ : List M} {Q : VK} {l : List D} {vs : List V} {x dx : Addr} (hc : c ∈ S.cls) (I : SI S c1 μ) (r : reps S c1.io c1.F l vs) (hn : l.length + 1 = np)
    (h1 : c1.H x = none) (h2 : c1.H dx = none) (h3 : dx ≠ x) (q : EQ S W σ c1 Q (match G (.cel μ.length :: l) (μ ++ [.obj c [] []]) with
      | .ok .non μ2 => match finD μ.length μ2 (.cel μ.length) with
        | some (d, μ3) => .ok d μ3
        | none => .stuck
      | .ok _ _ => .stuck
      | .ex x ns l' μ2 => match finL μ.length μ2 l' with
        | some (l2, μ3) => .ex x ns l2 μ3
        | none => .stuck
      | .stuck => .stuck)) :
    spD (at0 S 0) np G (.ref x :: vs) (upd (upd c1.H dx (.own x)) x (.ins (S.A c) dx [])) (fun v H2 => v = .non ∧ Q (.ref x) H2) (WE W σ) := by
  -- the dict of the instance
  have nio : ∀ p, c1.H p = none → p ∉ c1.io := fun p hp m => by
    obtain ⟨o, z⟩ := I.there m
    rw [hp] at z; cases z
  have I1 : SI S ⟨c1.io, c1.F, upd c1.H dx (.own x)⟩ μ := I.ghost (nio dx h2) (I.ex.back h2)
  have s1 : Step S c1 ⟨c1.io, c1.F, upd c1.H dx (.own x)⟩ := I.step.ghost h2
  have hx : (⟨c1.io, c1.F, upd c1.H dx (.own x)⟩ : Cf).H x = none := (upd_ne (Ne.symm h3)).trans h1
  obtain ⟨I2, s2⟩ := I1.alloc (p := x) (o := .ins (S.A c) dx []) (m := .obj c [] []) hx (fun io pre => ⟨I1.ex.back hx, dx, [], upd_same, rfl, .nil⟩) (fun x2 ns l2 e => by cases e; exact hc)
  have s12 := s1.trans s2
  have ln : μ.length = c1.io.length := I.len.symm
  have rc : rep S (c1.io ++ [x]) c1.F (.cel μ.length) (.ref x) := by
    unfold rep
    refine ⟨x, rfl, ?_⟩
    rw [ln, List.getElem?_append_right (Nat.le_refl _), Nat.sub_self]; rfl
  refine ⟨.cel μ.length :: l, _, _, _, ?_, SI_at.mpr I2, (reps_at _).mpr (.cons rc (s12.reps r)), ?_⟩
  · show vs.length + 1 = np
    rw [← r.len]; exact hn
  · cases eG : G (.cel μ.length :: l) (μ ++ [.obj c [] []]) with
    | stuck => rw [eG] at q; exact False.elim q
    | ok d μ2 =>
      rw [eG] at q
      intro v c3 s3 ei I3 r3
      have I3 := SI_at.mp I3
      have s3 : Step S _ c3 := Step.up (S := S) s3
      cases d with
      | non =>
        refine ⟨rep_non.mp r3, ?_⟩
        dsimp only at q
        cases ef : finD μ.length μ2 (.cel μ.length) with
        | none => rw [ef] at q; exact False.elim q
        | some pr =>
          obtain ⟨d', μ3⟩ := pr
          rw [ef] at q
          unfold finD at ef
          cases e1 : sub μ.length (rsv μ.length μ2 20) (.cel μ.length) with
          | none => rw [e1] at ef; cases ef
          | some d1 =>
            rw [e1] at ef
            cases e2 : subMs μ.length (rsv μ.length μ2 20) (μ2.take μ.length) with
            | none => rw [e2] at ef; cases ef
            | some μ1 =>
              rw [e2] at ef; cases ef
              obtain ⟨s4, ei4⟩ := froz_new I3 ln (s12.trans s3)
              have rc3 : rep S c3.io c3.F (.cel μ.length) (.ref x) := s3.rep rc
              exact q _ (froz c3 μ.length) s4 (froz_SI I3 (rsv_rep I3 20) e2) (sub_rep I3 (rsv_rep I3 20) _ e1 rc3)
      | _ => exact False.elim q
    | ex y ns l' μ2 =>
      rw [eG] at q
      dsimp only at q
      intro dd c3 s3 ei I3 r3
      have I3 := SI_at.mp I3
      have s3 : Step S _ c3 := Step.up (S := S) s3
      cases ef : finL μ.length μ2 l' with
      | none => rw [ef] at q; exact False.elim q
      | some pr =>
        obtain ⟨l2, μ3⟩ := pr
        rw [ef] at q
        unfold finL at ef
        cases e1 : subs μ.length (rsv μ.length μ2 20) l' with
        | none => rw [e1] at ef; cases ef
        | some d1 =>
          rw [e1] at ef
          cases e2 : subMs μ.length (rsv μ.length μ2 20) (μ2.take μ.length) with
          | none => rw [e2] at ef; cases ef
          | some μ1 =>
            rw [e2] at ef; cases ef
            obtain ⟨s4, ei4⟩ := froz_new I3 ln (s12.trans s3)
            refine q dd (froz c3 μ.length) s4 (froz_SI I3 (rsv_rep I3 20) e2) ?_
            rcases xrep_at.mp r3 with ⟨h5, h6, h7⟩ | ⟨a, fs, h5, h6, h7, h8⟩
            · subst h6
              cases (show some [] = some l2 from e1)
              exact Or.inl ⟨h5, rfl, h7⟩
            · exact Or.inr ⟨a, fs, h5, froz_ex I3 _ _ _ h6, h7, subs_rep I3 (rsv_rep I3 20) l' e1 h8⟩
/-- what is known of a class that is made by a call -/
structure MkF (S : Sx) (c : Str) (f : Addr) : Prop where
  mke : Mk S.K (S.A c) f
  mem : c ∈ S.cls
theorem pd_make {c : Str} (hK : X.K = S.K) (hM : MkF S c f) (F : FnOk X.prog X.w X.K X.mg X.base (L2M.CX md X.prog X.w) k f fd ps (spD (at0 S 0) np G)) (hr : Room (k + 1) X.A) (tk : L2M.Takes md X W) (hg : Gl X c) (hm : X.mg c = some (.ref (S.A c))) (hb : DflD S X.K fd ps dd)
    (ha : PDA X S W (e :: es) ds) (hdb : (c == ("__debug__" : Str)) = false := by decide) (he : starEach (e :: es) X.env = (false, eval e X.env) :: starEach es X.env := by rfl) (hpl : (backTo pos (starEach es X.env)).any (·.1) = false := by rfl) :
    PDE X S W (.Call (.Name c p) (e :: es) [] pos) (dMake c np G dd ds) := by
  obtain ⟨t, pa, ka⟩ := ha.ex
  obtain ⟨dvs, dV, h1, h2, h3⟩ := hb.ex
  refine ⟨fun σ H Q => t σ H fun vs H1 => ∀ x dx, H1 x = none → H1 dx = none → dx ≠ x → spD (at0 S 0) np G (.ref x :: (vs ++ dvs)) (upd (upd H1 dx (.own x)) x (.ins (S.A c) dx [])) (fun v H2 => v = .non ∧ Q (.ref x) H2) (WE W σ), ⟨fun pins s σ H Q I h => ?_⟩, fun env σ c1 μ Q I en q => ?_⟩
  · refine wpAny_Call_Name_kw (ld_glob I hg hm ?_ hdb)
    have kc : PySem.W.keepIn X.K (.ref (S.A c)) = true := by rw [hK]; exact hM.mke.kp
    have M1 : Mk X.K (S.A c) f := by rw [hK]; exact hM.mke
    refine PySem.W.callWith_K (h₀ := X.base) I.ok.mod.kin kc (thn (pa.run pos pins s σ H _ I h) fun us s1 ⟨vs, H1, I1, r, q⟩ => ⟨I1.kIn, ?_⟩) he hpl
    refine make_go (bs := us ++ dV) M1 F hr (fun s2 self k2 l2 => ?_) (L2M.passAt tk σ) I1 (r.append h2) q
    have z := h1 s2 (self :: us) k2 (by rw [List.cons_append, List.length_cons]; exact l2)
    rw [List.cons_append] at z
    exact z
  · refine bindAE (fun Q' => ka env σ c1 μ Q' I en) q fun l μ1 vs c2 s1 I1 r1 q1 => fun x dx hx hdx hne => ?_
    by_cases hn : (l ++ dd).length + 1 = np
    · rw [if_pos hn] at q1
      exact make_sp hM.mem I1 (r1.append (h3 _ _)) hn hx hdx hne q1
    · rw [if_neg hn] at q1; exact False.elim q1
end
end DL
namespace DL
open PySem PySem.Spec PyProof.Rows L2
section
variable {X : Cx} {S : Sx} {W : WX} {a b e o : Expr} {es : List Expr} {da db d : DE} {ds : DA} {pos p apos : Pos} {k : Nat} {x m c : Str} {f : Addr} {fd : FuncData} {ps : List Str} {np : Nat} {G : GF} {dd : List D}
/-! ### a promise, at the caller's own number of cells -/
theorem sp_at {σ : St} {c1 : Cf} {μ : List M} {Q : VK} {l : List D} {vs : List V} (I : SI S c1 μ) (r : reps S c1.io c1.F l vs) (hn : l.length = np) (q : EQ S W σ c1 Q (G l μ)) : spD (at0 S 0) np G vs c1.H Q (WE W σ) := by
  obtain ⟨ds', io, μ', F', k1, k2, k3, k4⟩ := call_sp I r hn q
  refine ⟨ds', io, μ', F', k1, SI_at.mpr k2, (reps_at _).mpr k3, ?_⟩
  cases eo : G ds' μ' with
  | ok d μ2 => rw [eo] at k4; exact fun v c' s ei I' r' => k4 v c' s ei (SI_at.mp I') ((rep_at _).mp r')
  | ex y ns l' μ2 => rw [eo] at k4; exact fun dd c' s ei I' r' => k4 dd c' s ei (SI_at.mp I') (xrep_at.mp r')
  | stuck => rw [eo] at k4; exact k4
/-! ### o.m(..) -/
theorem fld_none {f : Str} : ∀ {fs : List (Str × V)} {ns : List Str} {l : List D}, fs.map (·.1) = ns → l.length = ns.length → fldOf f ns l = none → fs.lookup f = none
  | [], _, _, _, _, _ => rfl
  | (n, v) :: fs, ns, l, e, hl, h => by
    subst e
    cases l with
    | nil => cases hl
    | cons d l =>
      have h' : (if f = n then some d else fldOf f (fs.map (·.1)) l) = none := h
      by_cases hf : f = n
      · rw [if_pos hf] at h'; cases h'
      · rw [if_neg hf] at h'
        have hb : (f == n) = false := by simpa using hf
        rw [List.lookup_cons, hb]
        exact fld_none rfl (Nat.succ.inj hl) h'
def dMeth (c m : Str) (np : Nat) (G : GF) (dd : List D) (da : DE) (ds : DA) : DE := fun env μ => (da env μ).bind fun x μ1 => if clsAt μ1 x = some c ∧ (fldAt μ1 m x).isNone = true then (ds env μ1).bind fun l μ2 => if (x :: (l ++ dd)).length = np then G (x :: (l ++ dd)) μ2 else .stuck
  else .stuck
/-- what is known of a method -/
structure MtF (S : Sx) (c m : Str) (f : Addr) : Prop where
  cls : Cls S.K (S.A c)
  meth : Meth S.K (S.A c) m f
theorem meth_recv {c1 : Cf} {μ : List M} {d : D} {v : V} (I : SI S c1 μ) (r : rep S c1.io c1.F d v) (h : clsAt μ d = some c) (hn : (fldAt μ m d).isNone = true) : ∃ a dx fs, v = .ref a ∧ c1.H a = some (.ins (S.A c) dx fs) ∧ fs.lookup m = none := by
  obtain ⟨a, dx, fs, ns, l, h1, h2, h3, h4, h5, _⟩ := obj_at I r h
  refine ⟨a, dx, fs, h1, h2, fld_none h3 ?_ (by rw [← h5]; simpa using hn)⟩
  rw [h4.len, ← h3, List.length_map, List.length_map]
theorem pd_meth {pl : Sem Bool} (hK : X.K = S.K) (hM : MtF S c m f) (F : FnOk X.prog X.w X.K X.mg X.base (L2M.CX md X.prog X.w) k f fd ps (spD (at0 S 0) np G)) (hr : Room k X.A) (tk : L2M.Takes md X W) (hb : DflD S X.K fd (ps) dd) (hap : PDE X S W o da) (ha : PDA X S W (e :: es) ds)
    (hst : starEach (e :: es) X.env = (false, eval e X.env) :: starEach es X.env := by rfl) (hpl : (backTo pos (starEach es X.env)).any (·.1) = false := by rfl)
    (ht : eval (.Call (.Attribute o m apos) (e :: es) [] pos) X.env = (do
      let ov ← eval o X.env
      standAt apos.atName
      let (f, first) ← holding [ov] (getMethod ov m pl)
      callWith pos f first (backTo pos (starEach (e :: es) X.env)) (backToKw pos (keywordEach [] X.env))) := by rfl) :
    PDE X S W (.Call (.Attribute o m apos) (e :: es) [] pos) (dMeth c m np G dd da ds) := by
  obtain ⟨t, pa, ka⟩ := ha.ex
  obtain ⟨to, po, ko⟩ := hap.ex
  obtain ⟨dvs, dV, h1, h2, h3⟩ := hb.ex
  refine ⟨fun σ H Q => to σ H fun x H1 => ∃ a dx fs, x = .ref a ∧ H1 a = some (.ins (S.A c) dx fs) ∧ fs.lookup m = none ∧ t σ H1 fun vs H2 => spD (at0 S 0) np G (x :: (vs ++ dvs)) H2 Q (WE W σ), ⟨fun pins s σ H Q I h => ?_⟩, fun env σ c1 μ Q I en q => ?_⟩
  · refine PySem.W.methodCall_KW (pl := pl) (thn (po.run pins s σ H _ I h) fun u s1 ⟨x, H1, I1, rx, a, dx, fs, ex, ea, l, q⟩ => ?_) ht
    subst ex
    obtain rfl : u = Value.ref a := rx
    have M1 : Meth X.K (S.A c) m f := by rw [hK]; exact hM.meth
    have C1 : Cls X.K (S.A c) := by rw [hK]; exact hM.cls
    refine getmeth_ok I1 ea C1 M1 l ?_
    refine PySem.W.callWith_K (first := [.ref a]) (h₀ := X.base) I.ok.mod.kin M1.kp (thn (pa.run pos pins s1 σ H1 _ I1 q) fun us s2 ⟨vs, H2, I2, r, q2⟩ => ⟨I2.kIn, ?_⟩) hst hpl
    exact run_fnSD (E := WE W) (us := .ref a :: us) (vs := .ref a :: vs) F hr h1 h2 (L2M.passAt tk σ) I2 (.cons rfl r) q2
  · refine bindE (fun Q' => ko env σ c1 μ Q' I en) q fun x μ1 v c2 s1 I1 r1 q1 => ?_
    by_cases hc : clsAt μ1 x = some c ∧ (fldAt μ1 m x).isNone = true
    · rw [if_pos hc] at q1
      obtain ⟨a, dx, fs, rfl, z1, z2⟩ := meth_recv I1 r1 hc.1 hc.2
      refine ⟨a, dx, fs, rfl, z1, z2, ?_⟩
      refine bindAE (fun Q' => ka env σ c2 μ1 Q' I1 (en.step s1)) q1 fun l μ2 vs c3 s2 I2 r2 q2 => ?_
      by_cases hn : (x :: (l ++ dd)).length = np
      · rw [if_pos hn] at q2
        exact sp_at (l := x :: (l ++ dd)) (vs := .ref a :: (vs ++ dvs)) I2 (.cons (s2.rep r1) (r2.append (h3 _ _))) hn q2
      · rw [if_neg hn] at q2; exact False.elim q2
    · rw [if_neg hc] at q1; exact False.elim q1
/-! ### f(), C() -/
theorem pd_make0 (hK : X.K = S.K) (hM : MkF S c f) (F : FnOk X.prog X.w X.K X.mg X.base (L2M.CX md X.prog X.w) k f fd ps (spD (at0 S 0) np G)) (hr : Room (k + 1) X.A) (tk : L2M.Takes md X W) (hg : Gl X c) (hm : X.mg c = some (.ref (S.A c))) (hb : DflD S X.K fd ps dd)
    (hdb : (c == ("__debug__" : Str)) = false := by decide) : PDE X S W (.Call (.Name c p) [] [] pos) (dMake c np G dd aNil) := by
  obtain ⟨dvs, dV, h1, h2, h3⟩ := hb.ex
  refine ⟨fun σ H1 Q => ∀ x dx, H1 x = none → H1 dx = none → dx ≠ x → spD (at0 S 0) np G (.ref x :: dvs) (upd (upd H1 dx (.own x)) x (.ins (S.A c) dx [])) (fun v H2 => v = .non ∧ Q (.ref x) H2) (WE W σ), ⟨fun pins s σ H Q I h => ?_⟩, fun env σ c1 μ Q I en q => ?_⟩
  · refine wpAny_Call_Name_kw (ld_glob I hg hm ?_ hdb)
    have kc : PySem.W.keepIn X.K (.ref (S.A c)) = true := by rw [hK]; exact hM.mke.kp
    have M1 : Mk X.K (S.A c) f := by rw [hK]; exact hM.mke
    refine PySem.W.callWith_K0 I.kIn kc (make_go (us := []) (bs := dV) M1 F hr (fun s2 self k2 l2 => ?_) (L2M.passAt tk σ) I h2 h)
    have z := h1 s2 [self] k2 (by rw [List.cons_append, List.length_cons]; exact l2)
    rw [List.cons_append] at z
    exact z
  · intro x dx hx hdx hne
    have q : EQ S W σ c1 Q (if ([] ++ dd).length + 1 = np then _ else .stuck) := q
    by_cases hn : ([] ++ dd).length + 1 = np
    · rw [if_pos hn] at q
      exact make_sp hM.mem I (h3 _ _) hn hx hdx hne q
    · rw [if_neg hn] at q; exact False.elim q
/-! ### raise X('..') -/
structure ExF (S : Sx) (x : Str) : Prop where
  exc : PySem.W.excIn S.K (S.A x) He.veBase "ValueError.__new__" = true
  kp : PySem.W.keepIn S.K (.ref (S.A x)) = true
  sb : PySem.W.subIn S.K (.ref (S.A x)) (.type "BaseException") = some true
  ty : PySem.W.typeIn S.K (.ref (S.A x)) = some (.type "type")
def sRaise (x : Str) : DS := fun env μ => .ex x [] [] env μ
theorem pds_raise {z : Str} {j : Nat} {p2 pos2 : Pos} (hK : X.K = S.K) (hx : ExF S x) (hc : X.calm = true) (tk : L2M.Takes md X W) (hg : Gl X x) (hm : X.mg x = some (.ref (S.A x))) (hdb : (x == ("__debug__" : Str)) = false := by decide) :
    PDS X S W (.Raise (some (.Call (.Name x p) [.Constant (.str z) j p2] [] pos)) none pos2) (sRaise x) := by
  refine ⟨_, L2N.ps_raise hc tk.n (L2N.pmk_own PySem.F.excBase_ValueError (by rw [hK]; exact hx.exc) hm (by rw [hK]; exact hx.kp) (raises_own (by rw [hK]; exact hx.sb) (by rw [hK]; exact hx.ty)) hg hdb), fun env σ c μ E I en q => ?_⟩
  exact q none σ c I.step I en (Or.inl ⟨rfl, rfl, rfl⟩)
end
end DL
namespace DL
open PySem PySem.Spec PyProof.Rows L2
/-! ### a new list handed back, to be changed by the caller -/
section
variable {S : Sx} {io : List Addr} {F : Hp} {n : Nat}
mutual
theorem rep_clean : ∀ (d : D) {v : V}, clean n d = true → rep S io F d v → rep S (io.take n) F d v
  | .cel i, v, h, r => by
    unfold clean at h
    unfold rep at r ⊢
    obtain ⟨a, h1, h2⟩ := r
    exact ⟨a, h1, by rw [List.getElem?_take_of_lt (of_decide_eq_true h)]; exact h2⟩
  | .tup l, v, h, r => by
    unfold clean at h
    unfold rep at r ⊢
    obtain ⟨a, xs, h1, h2, h3⟩ := r
    exact ⟨a, xs, h1, h2, reps_clean l h h3⟩
  | .lst l, v, h, r => by
    unfold clean at h
    unfold rep at r ⊢
    obtain ⟨a, xs, h1, h2, h3⟩ := r
    exact ⟨a, xs, h1, h2, reps_clean l h h3⟩
  | .dct ks l, v, h, r => by
    unfold clean at h
    unfold rep at r ⊢
    obtain ⟨a, xs, h1, h2, h3, h4⟩ := r
    exact ⟨a, xs, h1, h2, h3, reps_clean l h h4⟩
  | .obj c ns l, v, h, r => by
    unfold clean at h
    unfold rep at r ⊢
    obtain ⟨a, dx, xs, h1, h2, h3, h4, h5⟩ := r
    exact ⟨a, dx, xs, h1, h2, h3, reps_clean l h h4, h5⟩
  | .exc c ns l, v, h, r => by unfold clean at h; cases h
  | .non, v, _, r => by unfold rep at r ⊢; exact r
  | .txt, v, _, r => by unfold rep at r ⊢; exact r
  | .bl _, v, _, r => by unfold rep at r ⊢; exact r
  | .int _, v, _, r => by unfold rep at r ⊢; exact r
  | .str _, v, _, r => by unfold rep at r ⊢; exact r
  | .ty _, v, _, r => by unfold rep at r ⊢; exact r
  | .glo _, v, _, r => by unfold rep at r ⊢; exact r
  | .scr _, v, _, r => by unfold rep at r ⊢; exact r
theorem reps_clean : ∀ (l : List D) {vs : List V}, cleans n l = true → reps S io F l vs → reps S (io.take n) F l vs
  | [], vs, _, r => by rw [r.eq_nil]; exact .nil
  | d :: l, vs, h, r => by
    obtain ⟨x, q, rfl, r1, r2⟩ := r.uncons
    unfold cleans at h
    have h' := Bool.and_eq_true_iff.mp h
    exact .cons (rep_clean d h'.1 r1) (reps_clean l h'.2 r2)
end
end
theorem SI.cut {S : Sx} {c : Cf} {μ : List M} {n : Nat} (I : SI S c μ) (h : (μ.take n).all (cleanM n) = true) : SI S ⟨c.io.take n, c.F, c.H⟩ (μ.take n) := by
  refine ⟨I.ex, by rw [List.length_take, List.length_take, I.len], I.nd.sublist (List.take_sublist _ _), fun i a m h1 h2 => ?_, fun i x ns l e => ?_⟩
  · have h1 : (c.io.take n)[i]? = some a := h1
    have hi : i < n := by
      have := (List.getElem?_eq_some_iff.mp h1).1
      rw [List.length_take] at this; omega
    rw [List.getElem?_take_of_lt hi] at h1
    have hm := List.all_eq_true.mp h m (List.mem_of_getElem? h2)
    rw [List.getElem?_take_of_lt hi] at h2
    have k := I.cell i a m h1 h2
    cases m with
    | lst l =>
      obtain ⟨k1, xs, k2, k3⟩ := k
      exact ⟨k1, xs, k2, reps_clean l hm k3⟩
    | dct ks l =>
      obtain ⟨k1, xs, k2, k3, k4⟩ := k
      exact ⟨k1, xs, k2, k3, reps_clean l hm k4⟩
    | obj x ns l =>
      obtain ⟨k1, dx, fs, k2, k3, k4⟩ := k
      exact ⟨k1, dx, fs, k2, k3, reps_clean l hm k4⟩
    | dead => exact k
    | dcT ks l =>
      obtain ⟨k1, xs, k2, k3, k4, k5⟩ := k
      exact ⟨k1, xs, k2, k3, k4, reps_clean l hm k5⟩
    | lck ks l =>
      obtain ⟨od, u, vs, k1, k2, k3, k4⟩ := k
      exact ⟨od, u, vs, k1, k2, k3, reps_clean l hm k4⟩
  · have hi : i < n := by
      have := (List.getElem?_eq_some_iff.mp e).1
      rw [List.length_take] at this; omega
    rw [List.getElem?_take_of_lt hi] at e
    exact I.cls i x ns l e
theorem cut_step {S : Sx} {c c' : Cf} {μ : List M} {n : Nat} (I : SI S c' μ) (hn : n = c.io.length) (s : Step (at0 S n) c c') : Step (at0 S n) c ⟨c'.io.take n, c'.F, c'.H⟩ ∧ c'.io.take n = c.io := by
  have e : c'.io.take n = c.io := by
    obtain ⟨z, e⟩ := s.pre
    rw [← e, hn, List.take_left]
  refine ⟨⟨?_, I.nd.sublist (List.take_sublist _ _), s.exF, s.frz, s.keep, fun p h1 h2 => ?_, s.som⟩, e⟩
  · show c.io <+: c'.io.take n
    rw [e]; exact List.prefix_refl _
  · have h1 : p ∈ c'.io.take n := h1
    rw [e] at h1
    exact absurd h1 h2
abbrev GN := List D → List M → Out (List D)
def NQ (S : Sx) (c : Cf) (Q : VK) (E : XK) : Out (List D) → Prop
  | .ok l μ => ∀ p xs c', c.H p = none → Step (at0 S c.io.length) c c' → c'.io = c.io → SI S c' μ → Ghost c' p → c'.H p = some (.lst xs) → reps S c'.io c'.F l xs → Q (.ref p) c'.H
  | .ex x ns l μ => ∀ dd c', Step (at0 S c.io.length) c c' → c'.io = c.io → SI S c' μ → xrep S c' ns l dd → E (.ref (S.A x)) dd c'.H
  | .stuck => False
def spN (S : Sx) (np : Nat) (G : GN) : Sp := fun vs H Q E => ∃ ds io μ F, vs.length = np ∧ SI S ⟨io, F, H⟩ μ ∧ reps S io F ds vs ∧ NQ S ⟨io, F, H⟩ Q E (G ds μ)
def finN (n : Nat) : SO → Out (List D)
  | .rt (.cel i) μ => if n ≤ i ∧ (μ.take n).all (cleanM n) = true then match μ[i]? with
    | some (.lst l) => if cleans n l = true then .ok l (μ.take n) else .stuck
    | _ => .stuck
    else .stuck
  | .ex x ns l _ μ => match finL n μ l with
    | some (l', μ') => .ex x ns l' μ'
    | none => .stuck
  | _ => .stuck
def fnN (nN np : Nat) (body : DS) : GN := fun ds μ => if ds.length = np then finN μ.length (body (start nN ds) μ) else .stuck
theorem bodyN_of {S : Sx} {c : Cf} {Q : VK} {E : XK} {n : Nat} (hn : n = c.io.length) : ∀ {o : SO}, NQ S c Q E (finN n o) → SQ (at0 S n) (fun cls d _ H => E cls d H) c { nx := fun _ H' => Q .non H', rt := Q } o
  | .rt (.cel i) μ, h => fun v c' s I r => by
    dsimp only [finN] at h
    have I0 := SI_at.mp I
    by_cases hc : n ≤ i ∧ (μ.take n).all (cleanM n) = true
    · rw [if_pos hc] at h
      cases e : μ[i]? with
      | none => rw [e] at h; exact False.elim h
      | some m =>
        rw [e] at h
        cases m with
        | lst l =>
          dsimp only at h
          by_cases hl : cleans n l = true
          · rw [if_pos hl] at h
            have r0 := (rep_at (S := S) (n := n) _).mp r
            unfold rep at r0
            obtain ⟨a, rfl, h2⟩ := r0
            obtain ⟨k1, xs, k2, k3⟩ := I0.cell i a _ h2 e
            obtain ⟨s2, ei⟩ := cut_step I0 hn s
            have ni : a ∉ c'.io.take n := fun m => by
              obtain ⟨j, hj, ej⟩ := List.getElem_of_mem m
              rw [List.length_take] at hj
              rw [List.getElem_take] at ej
              have hj2 : j < c'.io.length := by omega
              have e2 : c'.io[j]? = some a := by rw [List.getElem?_eq_getElem hj2, ej]
              have := nodup_at I0.nd e2 h2
              omega
            have fresh : c.H a = none := s.new a (List.mem_of_getElem? h2) (by rw [← ei]; exact ni)
            subst hn
            exact h a xs ⟨c'.io.take c.io.length, c'.F, c'.H⟩ fresh s2 ei (I0.cut hc.2) ⟨ni, k1, by show c'.H a ≠ none; rw [k2]; exact fun z => nomatch z⟩ k2 (reps_clean l hl k3)
          · rw [if_neg hl] at h; exact False.elim h
        | _ => exact False.elim h
    · rw [if_neg hc] at h; exact False.elim h
  | .ex x ns l en μ, h => fun dd σ' c' s I en' r => by
    dsimp only [finN] at h
    have I0 := SI_at.mp I
    cases e : finL n μ l with
    | none => rw [e] at h; exact False.elim h
    | some p =>
      obtain ⟨l', μ'⟩ := p
      rw [e] at h
      unfold finL at e
      cases e1 : subs n (rsv n μ 20) l with
      | none => rw [e1] at e; cases e
      | some d1 =>
        rw [e1] at e
        cases e2 : subMs n (rsv n μ 20) (μ.take n) with
        | none => rw [e2] at e; cases e
        | some μ1 =>
          rw [e2] at e; cases e
          obtain ⟨s2, ei⟩ := froz_step I0 hn s
          subst hn
          refine h dd (froz c' c.io.length) s2 ei (froz_SI I0 (rsv_rep I0 20) e2) ?_
          rcases xrep_at.mp r with ⟨h5, h6, h7⟩ | ⟨a, fs, h5, h6, h7, h8⟩
          · subst h6
            cases (show some [] = some l' from e1)
            exact Or.inl ⟨h5, rfl, h7⟩
          · exact Or.inr ⟨a, fs, h5, froz_ex I0 _ _ _ h6, h7, subs_rep I0 (rsv_rep I0 20) l e1 h8⟩
  | .rt .non _, h => False.elim h
  | .rt .txt _, h => False.elim h
  | .rt (.bl _) _, h => False.elim h
  | .rt (.int _) _, h => False.elim h
  | .rt (.str _) _, h => False.elim h
  | .rt (.ty _) _, h => False.elim h
  | .rt (.glo _) _, h => False.elim h
  | .rt (.tup _) _, h => False.elim h
  | .rt (.lst _) _, h => False.elim h
  | .rt (.dct _ _) _, h => False.elim h
  | .rt (.obj _ _ _) _, h => False.elim h
  | .rt (.scr _) _, h => False.elim h
  | .rt (.exc _ _ _) _, h => False.elim h
  | .nx _ _, h => False.elim h
  | .bk _ _, h => False.elim h
  | .ct _ _, h => False.elim h
  | .stuck, h => False.elim h
section
variable {P : Program} {w : World} {K : PySem.W.Frag} {mg : Str → Option Value} {base : Heap} {x qual : Str} {params : Arguments} {body : List Stmt} {scope : Scope} {dvs : List V} {kws : List (Str × V)} {f : Addr} {fd : FuncData}
theorem fnN_ok {N ps : List Str} {k : Nat} {S : Sx} {D : DS} (F : FunD K x qual params body scope dvs kws f fd) (Sc : FnScope N ps scope)
    (hb : ∀ (n : Nat) (cdv : Value) (A : Around) (outer : List Env) (s : Shared) (H : Hp) (E : XK), Room k (A.deeper (envOfC qual scope s.heap.objs.size f cdv)) →
      PDSs (cxOf (L2M.CX md P w) P w K mg base N qual scope f cdv A outer s H E) (at0 S n) (fun cls d _ H => E cls d H) body D) :
    FnOk P w K mg base (L2M.CX md P w) (k + 1) f fd ps (spN S ps.length (fnN N.length ps.length D)) := by
  refine F.ok Sc (fun vs H Q E h => ?_) (fun cdv A outer s H vs Q E hr h => ?_)
  · obtain ⟨_, _, _, _, h, _⟩ := h
    exact h
  · obtain ⟨ds, io, μ, F0, hl, I, r, q⟩ := h
    obtain ⟨t, p, kk⟩ := (hb io.length cdv A outer s H E hr).ex
    refine ⟨t, p, kk (start N.length ds) (L2.start N vs) ⟨io, F0, H⟩ μ _ (SI_at.mpr I) (start_ok ((reps_at ds).mpr r)) ?_⟩
    have e : ds.length = ps.length := r.len.trans hl
    have q : NQ S ⟨io, F0, H⟩ Q E (if ds.length = ps.length then finN μ.length (D (start N.length ds) μ) else .stuck) := q
    rw [if_pos e, show μ.length = io.length from I.len.symm] at q
    exact bodyN_of rfl q
end
section
variable {X : Cx} {S : Sx} {W : WX} {a b e o : Expr} {es : List Expr} {da db d : DE} {ds : DA} {pos p apos : Pos} {k : Nat} {x m c : Str} {f : Addr} {fd : FuncData} {ps : List Str} {np : Nat} {G : GF} {GL : GN} {dd : List D}
/-- return [..], as a cell -/
def sRetC (ds : DA) : DS := fun env μ => (ds env μ).bindS env fun l μ1 => if l.length ≤ 100000 then .rt (.cel μ1.length) (μ1 ++ [.lst l]) else .stuck
theorem pds_retC {lpos : Pos} (ha : PDA X S W es ds) : PDS X S W (.Return (some (.List es lpos)) pos) (sRetC ds) := by
  obtain ⟨t, pa, ka⟩ := ha.ex
  refine ⟨_, ps_ret (pe_lst pa), fun env σ c μ E I en q => ?_⟩
  refine (show t σ c.H fun xs H1 => xs.length ≤ sizeLine ∧ ∀ p, H1 p = none → E.rt (.ref p) (upd H1 p (.lst xs)) from ?_)
  refine bindAS en (fun Q' => ka env σ c μ Q' I en) q fun l μ1 vs c1 s1 I1 r1 q1 => ?_
  by_cases h : l.length ≤ 100000
  · rw [if_pos h] at q1
    refine ⟨by rw [← r1.len]; exact sz_of h, fun p hp => ?_⟩
    obtain ⟨I', s⟩ := I1.alloc (p := p) (o := .lst vs) (m := .lst l) hp fun io pre => ⟨I1.ex.back hp, vs, upd_same, reps.mono pre (Ex.refl _) l r1⟩
    refine q1 _ _ s I' ?_
    unfold rep
    refine ⟨p, rfl, ?_⟩
    show (c1.io ++ [p])[μ1.length]? = some p
    rw [← I1.len, List.getElem?_append_right (Nat.le_refl _), Nat.sub_self]; rfl
  · rw [if_neg h] at q1; exact False.elim q1
/-! ### x = (a new list), as a cell -/
structure PDL (X : Cx) (S : Sx) (W : WX) (e : Expr) (d : DA) : Prop where
  ex : ∃ t, PE X e t ∧ ∀ env σ c μ (Q : VK), SI S c μ → EnvOk S c env σ → (match d env μ with
    | .ok l μ' => ∀ p xs c', c.H p = none → Step S c c' → SI S c' μ' → Ghost c' p → c'.H p = some (.lst xs) → reps S c'.io c'.F l xs → Q (.ref p) c'.H
    | .ex x ns l μ' => XQ S W σ c x ns l μ'
    | .stuck => False) → t σ c.H Q
/-- a ghost becomes a cell -/
theorem SI.adopt {c c1 : Cf} {μ : List M} {p : Addr} {xs : List V} {l : List D} (I : SI S c μ) (g : Ghost c p) (hH : c.H p = some (.lst xs)) (r : reps S c.io c.F l xs) (s : Step S c1 c) (hp : c1.H p = none) :
    SI S ⟨c.io ++ [p], c.F, c.H⟩ (μ ++ [.lst l]) ∧ Step S c1 ⟨c.io ++ [p], c.F, c.H⟩ := by
  have pre : c.io <+: c.io ++ [p] := List.prefix_append _ _
  have nd : (c.io ++ [p]).Nodup := List.nodup_append.mpr ⟨I.nd, by simp, fun a ha b hb => by
    have : b = p := by simpa using hb
    rw [this]; intro z; rw [z] at ha; exact g.io ha⟩
  refine ⟨⟨I.ex, by rw [List.length_append, List.length_append, I.len]; rfl, nd, fun i a m' h1 h2 => ?_, fun i x ns l' h => ?_⟩, ⟨s.pre.trans pre, nd, s.exF, s.frz, s.keep, fun q h1 h2 => ?_, s.som⟩⟩
  · by_cases hi : i < c.io.length
    · have h1' : c.io[i]? = some a := by
        have h1 : (c.io ++ [p])[i]? = some a := h1
        rw [List.getElem?_append_left hi] at h1; exact h1
      have h2' : μ[i]? = some m' := by
        rw [List.getElem?_append_left (by rw [← I.len]; exact hi)] at h2; exact h2
      have k := I.cell i a m' h1' h2'
      cases m' with
      | lst l =>
        obtain ⟨k1, xs, k2, k3⟩ := k
        exact ⟨k1, xs, k2, reps.mono pre (Ex.refl _) _ k3⟩
      | dct ks l =>
        obtain ⟨k1, xs, k2, k3, k4⟩ := k
        exact ⟨k1, xs, k2, k3, reps.mono pre (Ex.refl _) _ k4⟩
      | obj x ns l =>
        obtain ⟨k1, dx, fs, k2, k3, k4⟩ := k
        exact ⟨k1, dx, fs, k2, k3, reps.mono pre (Ex.refl _) _ k4⟩
      | dead => exact k
      | dcT ks l =>
        obtain ⟨k1, xs, k2, k3, k4, k5⟩ := k
        exact ⟨k1, xs, k2, k3, k4, reps.mono pre (Ex.refl _) _ k5⟩
      | lck ks l =>
        obtain ⟨od, u, vs, k1, k2, k3, k4⟩ := k
        exact ⟨od, u, vs, k1, k2, k3, reps.mono pre (Ex.refl _) _ k4⟩
    · have h1 : (c.io ++ [p])[i]? = some a := h1
      have hl : i < (c.io ++ [p]).length := (List.getElem?_eq_some_iff.mp h1).1
      rw [List.length_append] at hl
      have ei : i = c.io.length := by
        have : [p].length = 1 := rfl
        omega
      have e1 : a = p := by
        rw [ei, List.getElem?_append_right (Nat.le_refl _), Nat.sub_self] at h1
        simpa using h1.symm
      have e2 : m' = .lst l := by
        rw [ei, I.len, List.getElem?_append_right (Nat.le_refl _), Nat.sub_self] at h2
        simpa using h2.symm
      rw [e1, e2]
      exact ⟨g.F, xs, hH, reps.mono pre (Ex.refl _) l r⟩
  · by_cases hi : i < μ.length
    · rw [List.getElem?_append_left hi] at h
      exact I.cls i x ns l' h
    · have hl : i < (μ ++ [M.lst l]).length := (List.getElem?_eq_some_iff.mp h).1
      rw [List.length_append] at hl
      have ei : i = μ.length := by
        have : [M.lst l].length = 1 := rfl
        omega
      rw [ei, List.getElem?_append_right (Nat.le_refl _), Nat.sub_self] at h
      cases h
  · by_cases hm : q ∈ c.io
    · exact s.new q hm h2
    · have : q = p := by
        rcases List.mem_append.mp (show q ∈ c.io ++ [p] from h1) with h | h
        · exact absurd h hm
        · simpa using h
      rw [this]; exact hp
theorem pds_newL {i : Nat} {pos' : Pos} (hN : X.N.Nodup) (hi : X.N[i]? = some x) (hx : Loc X.env.scope x) (ha : PDL X S W e ds) (hs : swapsWith e (some (.Name x pos')) pos.line X.env = pure false := by rfl)
    (hf : X.fn x = true ∨ X.env.scope.names.lookup x = some .local := by first | exact .inl rfl | exact .inr rfl) : PDS X S W (.Assign [.Name x pos'] e pos) (sNew i ds) := by
  obtain ⟨t, pa, ka⟩ := ha.ex
  refine ⟨_, ps_set hN hi hx pa hs hf, fun env σ c μ E I en q => ?_⟩
  refine (show t σ c.H fun x H1 => E.nx (σ.set i (some x)) H1 from ?_)
  have q : SQ S W c E ((ds env μ).bindS env fun l μ1 => .nx (env.set i (some (.cel μ1.length))) (μ1 ++ [.lst l])) := q
  refine ka env σ c μ _ I en ?_
  cases e1 : ds env μ with
  | ok l μ1 =>
    rw [e1] at q
    intro p xs c1 hp s1 I1 g1 hH r1
    obtain ⟨I2, s2⟩ := I1.adopt g1 hH r1 s1 hp
    refine q _ ⟨c1.io ++ [p], c1.F, c1.H⟩ s2 I2 ((en.step s2).set ?_ i)
    unfold rep
    refine ⟨p, rfl, ?_⟩
    show (c1.io ++ [p])[μ1.length]? = some p
    rw [← I1.len, List.getElem?_append_right (Nat.le_refl _), Nat.sub_self]; rfl
  | ex x ns l μ1 => rw [e1] at q; exact fun dd c' s I' r => q dd σ c' s I' (en.step s) r
  | stuck => rw [e1] at q; exact q
/-- list(x) -/
def dListN (ds : DA) : DA := fun env μ => (ds env μ).bind fun l μ1 => match l with
  | [x] => match seqOf μ1 x with
    | some l => .ok l μ1
    | none => .stuck
  | _ => .stuck
/-- f(..), f of such a promise -/
def dCallN (np : Nat) (G : GN) (dd : List D) (ds : DA) : DA := fun env μ => (ds env μ).bind fun l μ1 => if (l ++ dd).length = np then G (l ++ dd) μ1 else .stuck
theorem pdl_call (F : FnOk X.prog X.w X.K X.mg X.base (L2M.CX md X.prog X.w) k f fd ps (spN (at0 S 0) np GL)) (hr : Room k X.A) (tk : L2M.Takes md X W) (hg : Gl X x) (hm : X.mg x = some (.ref f)) (hk : PySem.W.keepIn X.K (.ref f) = true) (hb : DflD S X.K fd ps dd)
    (ha : PDA X S W (e :: es) ds) (hdb : (x == ("__debug__" : Str)) = false := by decide) (he : starEach (e :: es) X.env = (false, eval e X.env) :: starEach es X.env := by rfl) (hpl : (backTo pos (starEach es X.env)).any (·.1) = false := by rfl) :
    PDL X S W (.Call (.Name x p) (e :: es) [] pos) (dCallN np GL dd ds) := by
  obtain ⟨t, pa, ka⟩ := ha.ex
  obtain ⟨dvs, dV, h1, h2, h3⟩ := hb.ex
  refine ⟨_, pe_callSD F hr hg hm hk h1 h2 (fun σ => L2M.passAt tk σ) pa hdb he hpl, fun env σ c μ Q I en q => ?_⟩
  refine (show t σ c.H fun vs H1 => spN (at0 S 0) np GL (vs ++ dvs) H1 Q (WE W σ) from ?_)
  refine ka env σ c μ _ I en ?_
  unfold dCallN at q
  cases e1 : ds env μ with
  | stuck => rw [e1] at q; exact q
  | ex x ns l μ1 => rw [e1] at q; exact q
  | ok l μ1 =>
    rw [e1] at q
    dsimp only [Out.bind] at q
    intro vs c1 s1 I1 r1
    by_cases hn : (l ++ dd).length = np
    · rw [if_pos hn] at q
      refine ⟨l ++ dd, c1.io, μ1, c1.F, ?_, SI_at.mpr I1, (reps_at _).mpr (r1.append (h3 _ _)), ?_⟩
      · rw [← (r1.append (h3 c1.io c1.F)).len]; exact hn
      · cases eo : GL (l ++ dd) μ1 with
        | stuck => rw [eo] at q; exact q
        | ok l2 μ2 =>
          rw [eo] at q
          intro p xs c' hp s ei I' g' hH r'
          have s := Step.up (S := S) s
          refine q p xs c' ?_ (s1.trans s) (SI_at.mp I') g' hH ((reps_at _).mp r')
          cases e2 : c.H p with
          | none => rfl
          | some o => exact absurd hp (s1.som p (by rw [e2]; exact fun z => nomatch z))
        | ex y ns l' μ2 =>
          rw [eo] at q
          exact fun dd c' s ei I' r' => q dd c' (s1.trans (Step.up (S := S) s)) (SI_at.mp I') (xrep_at.mp r')
    · rw [if_neg hn] at q; exact q.elim
end
end DL
/-! ### the head's facts, with one more test -/
namespace DL
open PySem PySem.Spec PyProof.Rows L2 He
theorem obsXG_eq {n : Nat} {chk : PySem.W.Frag → Bool} {fa : List Fa} {fn : List DefD} {g : Addr → Option Obj} {s : Shared} (h : ∀ a, g a = s.heap.get? a) : obsXG n chk fa fn g = (hookX n chk fa fn).obs s := by
  have e : g = s.heap.get? := funext h
  rw [e] <;> rfl
theorem saysX {chk : PySem.W.Frag → Bool} {fa : List Fa} {fn : List DefD} {K : PySem.W.Frag} (h : obsX chk fa fn K = (true, valD fn)) : chk K = true ∧ SaysD fa fn K := ⟨congrArg (fun z : AlX => z.1) h, congrArg (fun z : AlX => z.2) h⟩
/-! ### what is known of a def, a class, a method -/
structure CalD (md : Bool) (P : Program) (w : World) (K : PySem.W.Frag) (mg : Str → Option Value) (base : Heap) (S : Sx) (k : Nat) (x : Str) (np : Nat) (G : GF) (dfl : List D) : Prop where
  ex : ∃ (f : Addr) (fd : FuncData) (ps : List Str), mg x = some (.ref f) ∧ PySem.W.keepIn K (.ref f) = true ∧ (∀ j, j ≤ dfl.length → DflD S K fd ps (dfl.drop j)) ∧ FnOk P w K mg base (L2M.CX md P w) k f fd ps (spD S np G)
structure CalN (md : Bool) (P : Program) (w : World) (K : PySem.W.Frag) (mg : Str → Option Value) (base : Heap) (S : Sx) (k : Nat) (x : Str) (np : Nat) (G : GN) (dfl : List D) : Prop where
  ex : ∃ (f : Addr) (fd : FuncData) (ps : List Str), mg x = some (.ref f) ∧ PySem.W.keepIn K (.ref f) = true ∧ (∀ j, j ≤ dfl.length → DflD S K fd ps (dfl.drop j)) ∧ FnOk P w K mg base (L2M.CX md P w) k f fd ps (spN S np G)
structure MetD (md : Bool) (P : Program) (w : World) (K : PySem.W.Frag) (mg : Str → Option Value) (base : Heap) (S : Sx) (k : Nat) (c m : Str) (np : Nat) (G : GF) (dfl : List D) : Prop where
  ex : ∃ (f : Addr) (fd : FuncData) (ps : List Str), MtF S c m f ∧ (∀ j, j ≤ dfl.length → DflD S K fd ps (dfl.drop j)) ∧ FnOk P w K mg base (L2M.CX md P w) k f fd ps (spD S np G)
structure MakD (md : Bool) (P : Program) (w : World) (K : PySem.W.Frag) (mg : Str → Option Value) (base : Heap) (S : Sx) (k : Nat) (c : Str) (np : Nat) (G : GF) (dfl : List D) : Prop where
  ex : ∃ (f : Addr) (fd : FuncData) (ps : List Str), mg c = some (.ref (S.A c)) ∧ MkF S c f ∧ (∀ j, j ≤ dfl.length → DflD S K fd ps (dfl.drop j)) ∧ FnOk P w K mg base (L2M.CX md P w) k f fd ps (spD S np G)
theorem DflD.at0 {S : Sx} {n : Nat} {K : PySem.W.Frag} {fd : FuncData} {ps : List Str} {dd : List D} (h : DflD S K fd ps dd) : DflD (at0 S n) K fd ps dd := by
  obtain ⟨a, b, h1, h2, h3⟩ := h.ex
  exact ⟨a, b, h1, h2, fun io F => (reps_at _).mpr (h3 io F)⟩
section
variable {X : Cx} {S0 : Sx} {n : Nat} {W : WX} {e o : Expr} {es : List Expr} {da : DE} {ds : DA} {pos p apos : Pos} {k kr : Nat} {x m c : Str} {np : Nat} {G : GF} {GL : GN} {dfl : List D}
theorem pd_c (C : CalD md X.prog X.w X.K X.mg X.base (at0 S0 0) k x np G dfl) (hr : Room kr X.A) (hk : k ≤ kr) (j : Nat) (hj : j ≤ dfl.length) (tk : L2M.Takes md X W) (hg : Gl X x) (ha : PDA X (at0 S0 n) W (e :: es) ds)
    (hdb : (x == ("__debug__" : Str)) = false := by decide) (he : starEach (e :: es) X.env = (false, eval e X.env) :: starEach es X.env := by rfl) (hpl : (backTo pos (starEach es X.env)).any (·.1) = false := by rfl) :
    PDE X (at0 S0 n) W (.Call (.Name x p) (e :: es) [] pos) (dCall np G (dfl.drop j) ds) := by
  obtain ⟨f, fd, ps, h1, h2, h3, h4⟩ := C.ex
  exact pd_call (S := at0 S0 n) h4 (hr.mono hk) tk hg h1 h2 ((h3 j hj).at0 (n := n)) ha hdb he hpl
theorem pdl_c (C : CalN md X.prog X.w X.K X.mg X.base (at0 S0 0) k x np GL dfl) (hr : Room kr X.A) (hk : k ≤ kr) (j : Nat) (hj : j ≤ dfl.length) (tk : L2M.Takes md X W) (hg : Gl X x) (ha : PDA X (at0 S0 n) W (e :: es) ds)
    (hdb : (x == ("__debug__" : Str)) = false := by decide) (he : starEach (e :: es) X.env = (false, eval e X.env) :: starEach es X.env := by rfl) (hpl : (backTo pos (starEach es X.env)).any (·.1) = false := by rfl) :
    PDL X (at0 S0 n) W (.Call (.Name x p) (e :: es) [] pos) (dCallN np GL (dfl.drop j) ds) := by
  obtain ⟨f, fd, ps, h1, h2, h3, h4⟩ := C.ex
  exact pdl_call (S := at0 S0 n) h4 (hr.mono hk) tk hg h1 h2 ((h3 j hj).at0 (n := n)) ha hdb he hpl
theorem pd_m {pl : Sem Bool} (hK : X.K = S0.K) (C : MetD md X.prog X.w X.K X.mg X.base (at0 S0 0) k c m np G dfl) (hr : Room kr X.A) (hk : k ≤ kr) (j : Nat) (hj : j ≤ dfl.length) (tk : L2M.Takes md X W) (hap : PDE X (at0 S0 n) W o da) (ha : PDA X (at0 S0 n) W (e :: es) ds)
    (hst : starEach (e :: es) X.env = (false, eval e X.env) :: starEach es X.env := by rfl) (hpl : (backTo pos (starEach es X.env)).any (·.1) = false := by rfl)
    (ht : eval (.Call (.Attribute o m apos) (e :: es) [] pos) X.env = (do
      let ov ← eval o X.env
      standAt apos.atName
      let (f, first) ← holding [ov] (getMethod ov m pl)
      callWith pos f first (backTo pos (starEach (e :: es) X.env)) (backToKw pos (keywordEach [] X.env))) := by rfl) :
    PDE X (at0 S0 n) W (.Call (.Attribute o m apos) (e :: es) [] pos) (dMeth c m np G (dfl.drop j) da ds) := by
  obtain ⟨f, fd, ps, h1, h3, h4⟩ := C.ex
  exact pd_meth (S := at0 S0 n) hK ⟨h1.cls, h1.meth⟩ h4 (hr.mono hk) tk ((h3 j hj).at0 (n := n)) hap ha hst hpl ht
theorem pd_mk (hK : X.K = S0.K) (C : MakD md X.prog X.w X.K X.mg X.base (at0 S0 0) k c np G dfl) (hr : Room kr X.A) (hk : k + 1 ≤ kr) (j : Nat) (hj : j ≤ dfl.length) (tk : L2M.Takes md X W) (hg : Gl X c) (ha : PDA X (at0 S0 n) W (e :: es) ds)
    (hdb : (c == ("__debug__" : Str)) = false := by decide) (he : starEach (e :: es) X.env = (false, eval e X.env) :: starEach es X.env := by rfl) (hpl : (backTo pos (starEach es X.env)).any (·.1) = false := by rfl) :
    PDE X (at0 S0 n) W (.Call (.Name c p) (e :: es) [] pos) (dMake c np G (dfl.drop j) ds) := by
  obtain ⟨f, fd, ps, h1, h2, h3, h4⟩ := C.ex
  exact pd_make (S := at0 S0 n) hK ⟨h2.mke, h2.mem⟩ h4 (hr.mono hk) tk hg h1 ((h3 j hj).at0 (n := n)) ha hdb he hpl
theorem pd_mk0 (hK : X.K = S0.K) (C : MakD md X.prog X.w X.K X.mg X.base (at0 S0 0) k c np G dfl) (hr : Room kr X.A) (hk : k + 1 ≤ kr) (j : Nat) (hj : j ≤ dfl.length) (tk : L2M.Takes md X W) (hg : Gl X c) (hdb : (c == ("__debug__" : Str)) = false := by decide) :
    PDE X (at0 S0 n) W (.Call (.Name c p) [] [] pos) (dMake c np G (dfl.drop j) aNil) := by
  obtain ⟨f, fd, ps, h1, h2, h3, h4⟩ := C.ex
  exact pd_make0 (S := at0 S0 n) hK ⟨h2.mke, h2.mem⟩ h4 (hr.mono hk) tk hg h1 ((h3 j hj).at0 (n := n)) hdb
theorem takesNo : L2M.Takes md X wNo := match md with
  | true => fun _ _ ⟨_, _, _, _, _, _, _, _, _, _, _, _, _, _, _, _, z⟩ => z.elim
  | false => fun _ _ ⟨_, _, _, _, _, _, _, _, _, _, _, _, _, _, _, _, z⟩ => z.elim
end
end DL
namespace DL
open PySem PySem.Spec PyProof.Rows L2
section
variable {X : Cx} {S : Sx} {W : WX} {a b e o : Expr} {es : List Expr} {da db dc d : DE} {pos apos : Pos} {k : Nat}
/-! ### a < b < c -/
/-! ### a, b = x, y -/
def sPar (i j : Nat) (ds : DA) : DS := fun env μ => (ds env μ).bindS env fun l μ2 => match l with
  | [x, y] => .nx ((env.set i (some x)).set j (some y)) μ2
  | _ => .stuck
/-! ### methods of texts -/
def dM0 (g : List M → Str → List D → Option D) (da : DE) : DE := fun env μ => (da env μ).bind fun x μ1 => match x with
  | .str x => match g μ1 x [] with
    | some d => .ok d μ1
    | none => .stuck
  | _ => .stuck
def dM1 (g : List M → Str → List D → Option D) (da db : DE) : DE := fun env μ => (da env μ).bind fun x μ1 => match x with
  | .str x => (db env μ1).bind fun y μ2 => match g μ2 x [y] with
    | some d => .ok d μ2
    | none => .stuck
  | _ => .stuck
/-! ### join -/
/-! ### text * int -/
/-! ### text[::-1] -/
def revS (x : Str) : Str := ⟨x.cps.toList.reverse.toArray⟩
end
end DL
namespace DL
open PySem PySem.Spec PyProof.Rows L2
/-! ### <, <=, >, >= of alike data -/
section
variable {X : Cx} {S : Sx}
/-! ### sorted(xs) of alike data -/
theorem each_of_vals {β : Type} {R : β → Value → Prop} : ∀ {bs : List β} {us : List Value} (f : β → V), Vals (bs.map f) us → (∀ b u, RelV (f b) u → R b u) → PySem.W.EachIs (fun u b => R b u) us bs
  | [], us, f, r, _ => by
    rw [List.map_nil] at r
    cases r
    exact .nil
  | b :: bs, us, f, r, h => by
    rw [List.map_cons] at r
    cases r with
    | cons r1 r2 => exact .cons (h b _ r1) (each_of_vals f r2 h)
theorem vals_of_each {β : Type} (f : β → V) : ∀ {us : List Value} {bs : List β}, PySem.W.EachIs (fun u b => RelV (f b) u) us bs → Vals (bs.map f) us
  | _, _, .nil => .nil
  | _, _, .cons h t => .cons h (vals_of_each f t)
def ltLe (a b : D) : Bool := !PySem.W.dataLt (py b) (py a)
/-- what can be sorted -/
def sortOk (l : List D) : Bool := plains l && (l.all (fun x => decide (dep x ≤ 64) && l.all fun y => PySem.W.alike (py x) (py y)) &&
  (l.all (fun x => match x with | .tup (_ :: _) => true | _ => false) || l.all (fun x => match x with | .tup _ => false | .non => false | _ => true)))
theorem plains_mem : ∀ {l : List D}, plains l = true → ∀ d ∈ l, plain d = true
  | x :: l, h, d, m => by
    unfold plains at h
    have h := Bool.and_eq_true_iff.mp h
    rcases List.mem_cons.mp m with rfl | m
    · exact h.1
    · exact plains_mem h.2 d m
end
end DL
namespace DL
open PySem PySem.Spec PyProof.Rows L2
/-! ### the ends: the law's def, from its value -/
theorem law_sp {S : Sx} {G : GF} {H : Hp} {a : Addr} {ns : List Int} (h : ∃ μ, G [.scr ns] [] = .ok (.bl true) μ) (hS : SqL S.K H a (ns.map V.int)) : spD S 1 G [.ref a] H (fun v _ => v = .bl true) (fun _ _ _ => False) := by
  obtain ⟨μ, h⟩ := h
  refine ⟨[.scr ns], [], [], H, rfl, ⟨fun _ _ e => e, rfl, List.nodup_nil, fun i a m h => by simp at h, fun i x ns l h => by simp at h⟩, ?_, ?_⟩
  · unfold reps
    refine ⟨.ref a, [], rfl, ?_, by unfold reps; rfl⟩
    unfold rep
    exact ⟨a, rfl, hS⟩
  · rw [h]
    exact fun v c' _ _ _ r => rep_bl.mp r
theorem insB_ok {K : PySem.W.Frag} {C : Addr} (hc : Cls K C) (h : insB K C = true) : InsF K C := by
  unfold insB at h
  obtain ⟨h1, h⟩ := Bool.and_eq_true_iff.mp h
  obtain ⟨h2, h⟩ := Bool.and_eq_true_iff.mp h
  obtain ⟨h3, h4⟩ := Bool.and_eq_true_iff.mp h
  exact ⟨hc, He.eqO_ok h1, He.eqO_ok h2, of_decide_eq_true h3, of_decide_eq_true h4⟩
theorem kitB_ok {S : Sx} {u : Ty} (h : kitB S u = true) : KitF S u := fun t m => of_decide_eq_true (List.all_eq_true.mp h t m)
theorem exF_of {K : PySem.W.Frag} {x : Str} {cls : List Str} {n : Nat} (c : (He.Fa.exc x).ok K = true) : ExF (at0 ⟨K, He.ga K, 0, [], cls⟩ n) x := by
  obtain ⟨h1, h2, h3, h4⟩ := He.exc_ok c
  exact ⟨h1, h2, h3, h4⟩
theorem _root_.L2.Room.units8 {k : Nat} {A : Around} (r : Room k A) : A.units + 80 < cLine := by have := r.un; omega
/-- what a call lets out, in any world -/
def CXA (P : Program) : CXT := fun outer H s E u s' => ∃ w, L2M.CX true P w outer H s E u s'
theorem cxA_false {P : Program} {H : Hp} {s : Shared} {e : Value} {s' : Shared} (h : CXA P [] H s (fun _ _ _ => False) e s') : False := by
  obtain ⟨_, _, _, _, _, _, _, _, _, _, _, _, _, h⟩ := h
  exact h
theorem fnOk_any {P : Program} {w : World} {K : PySem.W.Frag} {mg : Str → Option Value} {base : Heap} {k : Nat} {f : Addr} {fd : FuncData} {ps : List Str} {sp : Sp} (F : FnOk P w K mg base (L2M.CX md P w) k f fd ps sp) : FnOk P w K mg base (CXA P) k f fd ps sp :=
  ⟨F.len, fun A outer s H args us vs Q E hr he hb hv hs => codeAny_mono (F.run A outer s H args us vs Q E hr he hb hv hs) fun r s' h => by
    cases r with
    | error e => exact ⟨w, L2M.cx_top h⟩
    | ok o => cases o <;> exact h⟩
end DL
namespace DL
open PySem PySem.Spec PyProof.Rows L2
/-! ### what a denotation comes to: its value, by what is asked behind it. The boxes keep what is asked behind out of simp's sight -/
abbrev XP := Str → List Str → List D → List M → Prop
structure Kt {α : Type} (Q : α → List M → Prop) (X : XP) : Type where
structure Ko {α : Type} (Q : α → Prop) : Type where
structure Ks (N : En → List M → Prop) (R : D → List M → Prop) (B C : En → List M → Prop) (X : Str → List Str → List D → En → List M → Prop) : Type where
def WO {α : Type} (o : Out α) (Q : α → List M → Prop) (X : XP) (_ : Kt Q X) : Prop := match o with
  | .ok x μ => Q x μ
  | .ex c ns l μ => X c ns l μ
  | .stuck => False
def OP {α : Type} (o : Option α) (Q : α → Prop) (_ : Ko Q) : Prop := match o with
  | some d => Q d
  | none => False
def WS (o : SO) (N : En → List M → Prop) (R : D → List M → Prop) (B C : En → List M → Prop) (X : Str → List Str → List D → En → List M → Prop) (_ : Ks N R B C X) : Prop := match o with
  | .nx e μ => N e μ
  | .rt d μ => R d μ
  | .bk e μ => B e μ
  | .ct e μ => C e μ
  | .ex c ns l e μ => X c ns l e μ
  | .stuck => False
def xNo : XP := fun _ _ _ _ => False
section
variable {α β : Type} {Q : α → List M → Prop} {X : XP} {k : Kt Q X} {N : En → List M → Prop} {R : D → List M → Prop} {B C : En → List M → Prop} {Z : Str → List Str → List D → En → List M → Prop} {ks : Ks N R B C Z} {env : En} {μ : List M}
theorem WO.mono {o : Out α} {Q' : α → List M → Prop} {X' : XP} (h : WO o Q X k) (q : ∀ x m, Q x m → Q' x m) (x : ∀ c ns l m, X c ns l m → X' c ns l m) : WO o Q' X' ⟨⟩ := by
  cases o with
  | ok a m => exact q a m h
  | ex c ns l m => exact x c ns l m h
  | stuck => exact h
/-- a spec without refusals, used -/
theorem WO.use {o : Out α} {Q' : α → List M → Prop} {k' : Kt Q' xNo} (h : WO o Q' xNo k') (q : ∀ x m, Q' x m → Q x m) : WO o Q X ⟨⟩ := h.mono q fun _ _ _ _ z => z.elim
theorem WO.ex_ {o : Out α} {k : Kt Q xNo} (h : WO o Q xNo k) : ∃ x m, o = .ok x m ∧ Q x m := by
  cases o with
  | ok a m => exact ⟨a, m, rfl, h⟩
  | ex c ns l m => exact h.elim
  | stuck => exact h.elim
theorem w_ok {x : α} : WO (.ok x μ) Q X k = Q x μ := id rfl
theorem w_ex {c : Str} {ns : List Str} {l : List D} : WO (.ex c ns l μ : Out α) Q X k = X c ns l μ := id rfl
theorem w_bind {Q : β → List M → Prop} {k : Kt Q X} {o : Out α} {f : α → List M → Out β} : WO (o.bind f) Q X k = WO o (fun x m => WO (f x m) Q X ⟨⟩) X ⟨⟩ := by cases o <;> rfl
theorem w_bindS {o : Out α} {f : α → List M → SO} : WS (o.bindS env f) N R B C Z ks = WO o (fun x m => WS (f x m) N R B C Z ⟨⟩) (fun c ns l m => Z c ns l env m) ⟨⟩ := by cases o <;> rfl
theorem s_bind {o : SO} {f : En → List M → SO} : WS (o.bind f) N R B C Z ks = WS o (fun e m => WS (f e m) N R B C Z ⟨⟩) R B C Z ⟨⟩ := by cases o <;> rfl
theorem o_some {Q : α → Prop} {k : Ko Q} {x : α} : OP (some x) Q k = Q x := id rfl
/-! expressions -/
theorem w_dC {Q : D → List M → Prop} {k : Kt Q X} {d : D} : WO (dC d env μ) Q X k = Q d μ := id rfl
theorem w_var {Q : D → List M → Prop} {k : Kt Q X} {i : Nat} : WO (dVar i env μ) Q X k = OP (env[i]?.join) (fun d => Q d μ) ⟨⟩ := by
  unfold dVar
  cases env[i]? with
  | none => rfl
  | some o => cases o <;> rfl
theorem w_op {Q : D → List M → Prop} {k : Kt Q X} {g : List M → D → D → Option D} {a b : DE} : WO (dOp g a b env μ) Q X k = WO (a env μ) (fun x m => WO (b env m) (fun y m2 => OP (g m2 x y) (fun d => Q d m2) ⟨⟩) X ⟨⟩) X ⟨⟩ := by
  unfold dOp
  cases a env μ with
  | ok x m =>
    show WO ((b env m).bind _) Q X _ = WO (b env m) _ X ⟨⟩
    cases b env m with
    | ok y m2 =>
      show WO (match g m2 x y with | some d => .ok d m2 | none => .stuck) Q X _ = OP (g m2 x y) _ ⟨⟩
      cases g m2 x y <;> rfl
    | ex _ _ _ _ => rfl
    | stuck => rfl
  | ex _ _ _ _ => rfl
  | stuck => rfl
theorem a_nil {Q : List D → List M → Prop} {k : Kt Q X} : WO (aNil env μ) Q X k = Q [] μ := id rfl
theorem a_cons {Q : List D → List M → Prop} {k : Kt Q X} {a : DE} {as : DA} : WO (aCons a as env μ) Q X k = WO (a env μ) (fun x m => WO (as env m) (fun l m2 => Q (x :: l) m2) X ⟨⟩) X ⟨⟩ := by
  unfold aCons
  cases a env μ with
  | ok x m =>
    show WO ((as env m).bind _) Q X _ = WO (as env m) _ X ⟨⟩
    cases as env m <;> rfl
  | ex _ _ _ _ => rfl
  | stuck => rfl
theorem w_tup {Q : D → List M → Prop} {k : Kt Q X} {as : DA} : WO (dTup as env μ) Q X k = WO (as env μ) (fun l m => l.length ≤ 100000 ∧ Q (.tup l) m) X ⟨⟩ := by
  unfold dTup
  cases as env μ with
  | ok l m =>
    show WO (if l.length ≤ 100000 then _ else _) Q X _ = (l.length ≤ 100000 ∧ Q (.tup l) m)
    by_cases h : l.length ≤ 100000
    · rw [if_pos h]; exact propext ⟨fun q => ⟨h, q⟩, fun q => q.2⟩
    · rw [if_neg h]; exact propext ⟨fun q => q.elim, fun q => absurd q.1 h⟩
  | ex _ _ _ _ => rfl
  | stuck => rfl
theorem w_lst {Q : D → List M → Prop} {k : Kt Q X} {as : DA} : WO (dLst as env μ) Q X k = WO (as env μ) (fun l m => l.length ≤ 100000 ∧ Q (.lst l) m) X ⟨⟩ := by
  unfold dLst
  cases as env μ with
  | ok l m =>
    show WO (if l.length ≤ 100000 then _ else _) Q X _ = (l.length ≤ 100000 ∧ Q (.lst l) m)
    by_cases h : l.length ≤ 100000
    · rw [if_pos h]; exact propext ⟨fun q => ⟨h, q⟩, fun q => q.2⟩
    · rw [if_neg h]; exact propext ⟨fun q => q.elim, fun q => absurd q.1 h⟩
  | ex _ _ _ _ => rfl
  | stuck => rfl
theorem w_blt {Q : D → List M → Prop} {k : Kt Q X} {g : List M → List D → Option D} {as : DA} : WO (dBlt g as env μ) Q X k = WO (as env μ) (fun l m => OP (g m l) (fun d => Q d m) ⟨⟩) X ⟨⟩ := by
  unfold dBlt
  cases as env μ with
  | ok l m =>
    show WO (match g m l with | some d => .ok d m | none => .stuck) Q X _ = OP (g m l) _ ⟨⟩
    cases g m l <;> rfl
  | ex _ _ _ _ => rfl
  | stuck => rfl
theorem w_call {Q : D → List M → Prop} {k : Kt Q X} {np : Nat} {G : GF} {dd : List D} {as : DA} : WO (dCall np G dd as env μ) Q X k = WO (as env μ) (fun l m => (l ++ dd).length = np ∧ WO (G (l ++ dd) m) Q X ⟨⟩) X ⟨⟩ := by
  unfold dCall
  cases as env μ with
  | ok l m =>
    show WO (if (l ++ dd).length = np then _ else _) Q X _ = ((l ++ dd).length = np ∧ _)
    by_cases h : (l ++ dd).length = np
    · rw [if_pos h]; exact propext ⟨fun q => ⟨h, q⟩, fun q => q.2⟩
    · rw [if_neg h]; exact propext ⟨fun q => q.elim, fun q => absurd q.1 h⟩
  | ex _ _ _ _ => rfl
  | stuck => rfl
theorem w_callN {Q : List D → List M → Prop} {k : Kt Q X} {np : Nat} {G : GN} {dd : List D} {as : DA} : WO (dCallN np G dd as env μ) Q X k = WO (as env μ) (fun l m => (l ++ dd).length = np ∧ WO (G (l ++ dd) m) Q X ⟨⟩) X ⟨⟩ := by
  unfold dCallN
  cases as env μ with
  | ok l m =>
    show WO (if (l ++ dd).length = np then _ else _) Q X _ = ((l ++ dd).length = np ∧ _)
    by_cases h : (l ++ dd).length = np
    · rw [if_pos h]; exact propext ⟨fun q => ⟨h, q⟩, fun q => q.2⟩
    · rw [if_neg h]; exact propext ⟨fun q => q.elim, fun q => absurd q.1 h⟩
  | ex _ _ _ _ => rfl
  | stuck => rfl
theorem w_or {Q : D → List M → Prop} {k : Kt Q X} {a b : DE} : WO (dOr a b env μ) Q X k = WO (a env μ) (fun x m => OP (truth m x) (fun t => if t = true then Q x m else WO (b env m) Q X ⟨⟩) ⟨⟩) X ⟨⟩ := by
  unfold dOr
  cases a env μ with
  | ok x m =>
    show WO (match truth m x with | some true => _ | some false => _ | none => _) Q X _ = OP (truth m x) _ ⟨⟩
    cases truth m x with
    | none => rfl
    | some t => cases t <;> rfl
  | ex _ _ _ _ => rfl
  | stuck => rfl
theorem w_and {Q : D → List M → Prop} {k : Kt Q X} {a b : DE} : WO (dAnd a b env μ) Q X k = WO (a env μ) (fun x m => OP (truth m x) (fun t => if t = true then WO (b env m) Q X ⟨⟩ else Q x m) ⟨⟩) X ⟨⟩ := by
  unfold dAnd
  cases a env μ with
  | ok x m =>
    show WO (match truth m x with | some true => _ | some false => _ | none => _) Q X _ = OP (truth m x) _ ⟨⟩
    cases truth m x with
    | none => rfl
    | some t => cases t <;> rfl
  | ex _ _ _ _ => rfl
  | stuck => rfl
theorem w_not {Q : D → List M → Prop} {k : Kt Q X} {a : DE} : WO (dNot a env μ) Q X k = WO (a env μ) (fun x m => OP (truth m x) (fun t => Q (.bl (!t)) m) ⟨⟩) X ⟨⟩ := by
  unfold dNot
  cases a env μ with
  | ok x m =>
    show WO (match truth m x with | some b => .ok (.bl (!b)) m | none => .stuck) Q X _ = OP (truth m x) _ ⟨⟩
    cases truth m x <;> rfl
  | ex _ _ _ _ => rfl
  | stuck => rfl
theorem w_neg {Q : D → List M → Prop} {k : Kt Q X} {a : DE} : WO (dNeg a env μ) Q X k = WO (a env μ) (fun x m => OP (opNeg m x) (fun d => Q d m) ⟨⟩) X ⟨⟩ := by
  unfold dNeg
  cases a env μ with
  | ok x m => cases x <;> rfl
  | ex _ _ _ _ => rfl
  | stuck => rfl
theorem w_if {Q : D → List M → Prop} {k : Kt Q X} {t : DT} {a b : DE} : WO (dIfE t a b env μ) Q X k = WO (t env μ) (fun c m => if c = true then WO (a env m) Q X ⟨⟩ else WO (b env m) Q X ⟨⟩) X ⟨⟩ := by
  unfold dIfE
  cases t env μ with
  | ok c m => cases c <;> rfl
  | ex _ _ _ _ => rfl
  | stuck => rfl
theorem w_chain {Q : D → List M → Prop} {k : Kt Q X} {g g' : List M → D → D → Option D} {a b c : DE} : WO (dChain g g' a b c env μ) Q X k = WO (a env μ) (fun x m => WO (b env m) (fun y m2 => OP (g m2 x y) (fun d => d = .bl true ∧ WO (c env m2) (fun z m3 => OP (g' m3 y z) (fun d => Q d m3) ⟨⟩) X ⟨⟩ ∨ d = .bl false ∧ Q (.bl false) m2) ⟨⟩) X ⟨⟩) X ⟨⟩ := by
  unfold dChain
  cases a env μ with
  | ok x m =>
    show WO ((b env m).bind _) Q X _ = WO (b env m) _ X ⟨⟩
    cases b env m with
    | ok y m2 =>
      show WO (match g m2 x y with | some (.bl k) => _ | _ => .stuck) Q X _ = OP (g m2 x y) _ ⟨⟩
      cases g m2 x y with
      | none => rfl
      | some d =>
        cases d with
        | bl t =>
          cases t with
          | false => exact propext ⟨fun q => .inr ⟨rfl, q⟩, fun q => q.elim (fun z => nomatch z.1) fun z => z.2⟩
          | true =>
            have e : WO ((c env m2).bind fun z μ3 => match g' μ3 y z with | some d => .ok d μ3 | none => .stuck) Q X ⟨⟩ = WO (c env m2) (fun z m3 => OP (g' m3 y z) (fun d => Q d m3) ⟨⟩) X ⟨⟩ := by
              cases c env m2 with
              | ok z m3 =>
                show WO (match g' m3 y z with | some d => .ok d m3 | none => .stuck) Q X _ = OP (g' m3 y z) _ ⟨⟩
                cases g' m3 y z <;> rfl
              | ex _ _ _ _ => rfl
              | stuck => rfl
            exact propext ⟨fun q => .inl ⟨rfl, e ▸ q⟩, fun q => q.elim (fun z => e.symm ▸ z.2) fun z => nomatch z.1⟩
        | _ => exact propext ⟨fun q => q.elim, fun q => q.elim (fun z => nomatch z.1) fun z => nomatch z.1⟩
    | ex _ _ _ _ => rfl
    | stuck => rfl
  | ex _ _ _ _ => rfl
  | stuck => rfl
theorem t_tru {Q : Bool → List M → Prop} {k : Kt Q X} {a : DE} : WO (dTru a env μ) Q X k = WO (a env μ) (fun x m => OP (truth m x) (fun t => Q t m) ⟨⟩) X ⟨⟩ := by
  unfold dTru
  cases a env μ with
  | ok x m =>
    show WO (match truth m x with | some b => .ok b m | none => .stuck) Q X _ = OP (truth m x) _ ⟨⟩
    cases truth m x <;> rfl
  | ex _ _ _ _ => rfl
  | stuck => rfl
def isB : D → Option Bool
  | .bl b => some b
  | _ => none
theorem t_tst {Q : Bool → List M → Prop} {k : Kt Q X} {a : DE} : WO (dTst a env μ) Q X k = WO (a env μ) (fun x m => OP (isB x) (fun t => Q t m) ⟨⟩) X ⟨⟩ := by
  unfold dTst
  cases a env μ with
  | ok x m => cases x <;> rfl
  | ex _ _ _ _ => rfl
  | stuck => rfl
theorem t_and {Q : Bool → List M → Prop} {k : Kt Q X} {a b : DT} : WO (tAnd2 a b env μ) Q X k = WO (a env μ) (fun t m => if t = true then WO (b env m) Q X ⟨⟩ else Q false m) X ⟨⟩ := by
  unfold tAnd2
  cases a env μ with
  | ok t m => cases t <;> rfl
  | ex _ _ _ _ => rfl
  | stuck => rfl
theorem t_or {Q : Bool → List M → Prop} {k : Kt Q X} {a b : DT} : WO (tOr2 a b env μ) Q X k = WO (a env μ) (fun t m => if t = true then Q true m else WO (b env m) Q X ⟨⟩) X ⟨⟩ := by
  unfold tOr2
  cases a env μ with
  | ok t m => cases t <;> rfl
  | ex _ _ _ _ => rfl
  | stuck => rfl
theorem t_not {Q : Bool → List M → Prop} {k : Kt Q X} {a : DT} : WO (tNot2 a env μ) Q X k = WO (a env μ) (fun t m => Q (!t) m) X ⟨⟩ := by
  unfold tNot2
  cases a env μ <;> rfl
theorem p_no {Q : Option Int → List M → Prop} {k : Kt Q X} : WO (dNoP env μ) Q X k = Q none μ := id rfl
def isI : D → Option Int
  | .int b => some b
  | _ => none
theorem p_some {Q : Option Int → List M → Prop} {k : Kt Q X} {a : DE} : WO (dP a env μ) Q X k = WO (a env μ) (fun x m => OP (isI x) (fun i => Q (some i) m) ⟨⟩) X ⟨⟩ := by
  unfold dP
  cases a env μ with
  | ok x m => cases x <;> rfl
  | ex _ _ _ _ => rfl
  | stuck => rfl
theorem w_slc {Q : D → List M → Prop} {k : Kt Q X} {a : DE} {l h : En → List M → Out (Option Int)} : WO (dSlc a l h env μ) Q X k = WO (a env μ) (fun x m => WO (l env m) (fun lo m2 => WO (h env m2) (fun hi m3 => OP (slc m3 lo hi x) (fun d => Q d m3) ⟨⟩) X ⟨⟩) X ⟨⟩) X ⟨⟩ := by
  unfold dSlc
  cases a env μ with
  | ok x m =>
    show WO ((l env m).bind _) Q X _ = WO (l env m) _ X ⟨⟩
    cases l env m with
    | ok lo m2 =>
      show WO ((h env m2).bind _) Q X _ = WO (h env m2) _ X ⟨⟩
      cases h env m2 with
      | ok hi m3 =>
        show WO (match slc m3 lo hi x with | some d => .ok d m3 | none => .stuck) Q X _ = OP (slc m3 lo hi x) _ ⟨⟩
        cases slc m3 lo hi x <;> rfl
      | ex _ _ _ _ => rfl
      | stuck => rfl
    | ex _ _ _ _ => rfl
    | stuck => rfl
  | ex _ _ _ _ => rfl
  | stuck => rfl
def isS : D → Option Str
  | .str b => some b
  | _ => none
theorem w_m1 {Q : D → List M → Prop} {k : Kt Q X} {g : List M → Str → List D → Option D} {a b : DE} : WO (dM1 g a b env μ) Q X k = WO (a env μ) (fun x m => OP (isS x) (fun z => WO (b env m) (fun y m2 => OP (g m2 z [y]) (fun d => Q d m2) ⟨⟩) X ⟨⟩) ⟨⟩) X ⟨⟩ := by
  unfold dM1
  cases a env μ with
  | ok x m =>
    cases x with
    | str z =>
      show WO ((b env m).bind _) Q X _ = WO (b env m) _ X ⟨⟩
      cases b env m with
      | ok y m2 =>
        show WO (match g m2 z [y] with | some d => .ok d m2 | none => .stuck) Q X _ = OP (g m2 z [y]) _ ⟨⟩
        cases g m2 z [y] <;> rfl
      | ex _ _ _ _ => rfl
      | stuck => rfl
    | _ => rfl
  | ex _ _ _ _ => rfl
  | stuck => rfl
theorem w_fld {Q : D → List M → Prop} {k : Kt Q X} {f : Str} {a : DE} : WO (dFld f a env μ) Q X k = WO (a env μ) (fun x m => OP ((clsAt m x).bind fun _ => fldAt m f x) (fun d => Q d m) ⟨⟩) X ⟨⟩ := by
  unfold dFld
  cases a env μ with
  | ok x m =>
    show WO (match clsAt m x with | some _ => (match fldAt m f x with | some d => .ok d m | none => .stuck) | none => .stuck) Q X _ = OP ((clsAt m x).bind fun _ => fldAt m f x) _ ⟨⟩
    cases clsAt m x with
    | none => rfl
    | some _ => cases e : fldAt m f x <;> simp only [Option.bind_some, e] <;> rfl
  | ex _ _ _ _ => rfl
  | stuck => rfl
/-! statements -/
theorem s_nil : WS (sNil env μ) N R B C Z ks = N env μ := id rfl
theorem s_brk : WS (sBrk env μ) N R B C Z ks = B env μ := id rfl
theorem s_cnt : WS (sCnt env μ) N R B C Z ks = C env μ := id rfl
theorem s_retN : WS (sRetN env μ) N R B C Z ks = R .non μ := id rfl
theorem s_raise {x : Str} : WS (sRaise x env μ) N R B C Z ks = Z x [] [] env μ := id rfl
theorem s_seq {a b : DS} : WS (sSeq a b env μ) N R B C Z ks = WS (a env μ) (fun e m => WS (b e m) N R B C Z ⟨⟩) R B C Z ⟨⟩ := s_bind
theorem s_ret {a : DE} : WS (sRet a env μ) N R B C Z ks = WO (a env μ) (fun x m => R x m) (fun c ns l m => Z c ns l env m) ⟨⟩ := w_bindS
theorem s_exp {a : DE} : WS (sExp a env μ) N R B C Z ks = WO (a env μ) (fun x m => N env m) (fun c ns l m => Z c ns l env m) ⟨⟩ := w_bindS
theorem s_if {t : DT} {a b : DS} : WS (sIf t a b env μ) N R B C Z ks = WO (t env μ) (fun c m => if c = true then WS (a env m) N R B C Z ⟨⟩ else WS (b env m) N R B C Z ⟨⟩) (fun c ns l m => Z c ns l env m) ⟨⟩ := by
  unfold sIf
  cases t env μ with
  | ok c m => cases c <;> rfl
  | ex _ _ _ _ => rfl
  | stuck => rfl
theorem s_set {d : DE} {i : Nat} : WS (sAsg d (gNm i) env μ) N R B C Z ks = WO (d env μ) (fun x m => N (env.set i (some x)) m) (fun c ns l m => Z c ns l env m) ⟨⟩ := by
  unfold sAsg
  cases d env μ <;> rfl
theorem s_asg {d : DE} {g : DG} : WS (sAsg d g env μ) N R B C Z ks = WO (d env μ) (fun x m => OP (g x env m) (fun e => N e m) ⟨⟩) (fun c ns l m => Z c ns l env m) ⟨⟩ := by
  unfold sAsg
  cases d env μ with
  | ok x m =>
    show WS (match g x env m with | some e => .nx e m | none => .stuck) N R B C Z _ = OP (g x env m) _ ⟨⟩
    cases g x env m <;> rfl
  | ex _ _ _ _ => rfl
  | stuck => rfl
theorem s_new {i : Nat} {as : DA} : WS (sNew i as env μ) N R B C Z ks = WO (as env μ) (fun l m => N (env.set i (some (.cel m.length))) (m ++ [.lst l])) (fun c ns l m => Z c ns l env m) ⟨⟩ := w_bindS
theorem s_cel {i : Nat} {as : DA} : WS (sCel i as env μ) N R B C Z ks = WO (as env μ) (fun l m => l.length ≤ 100000 ∧ N (env.set i (some (.cel m.length))) (m ++ [.lst l])) (fun c ns l m => Z c ns l env m) ⟨⟩ := by
  unfold sCel
  cases as env μ with
  | ok l m =>
    show WS (if l.length ≤ 100000 then _ else _) N R B C Z _ = (l.length ≤ 100000 ∧ _)
    by_cases h : l.length ≤ 100000
    · rw [if_pos h]; exact propext ⟨fun q => ⟨h, q⟩, fun q => q.2⟩
    · rw [if_neg h]; exact propext ⟨fun q => q.elim, fun q => absurd q.1 h⟩
  | ex _ _ _ _ => rfl
  | stuck => rfl
theorem s_retC {as : DA} : WS (sRetC as env μ) N R B C Z ks = WO (as env μ) (fun l m => l.length ≤ 100000 ∧ R (.cel m.length) (m ++ [.lst l])) (fun c ns l m => Z c ns l env m) ⟨⟩ := by
  unfold sRetC
  cases as env μ with
  | ok l m =>
    show WS (if l.length ≤ 100000 then _ else _) N R B C Z _ = (l.length ≤ 100000 ∧ _)
    by_cases h : l.length ≤ 100000
    · rw [if_pos h]; exact propext ⟨fun q => ⟨h, q⟩, fun q => q.2⟩
    · rw [if_neg h]; exact propext ⟨fun q => q.elim, fun q => absurd q.1 h⟩
  | ex _ _ _ _ => rfl
  | stuck => rfl
def pairOf : List D → Option (D × D)
  | [x, y] => some (x, y)
  | _ => none
theorem s_par {i j : Nat} {as : DA} : WS (sPar i j as env μ) N R B C Z ks = WO (as env μ) (fun l m => OP (pairOf l) (fun p => N ((env.set i (some p.1)).set j (some p.2)) m) ⟨⟩) (fun c ns l m => Z c ns l env m) ⟨⟩ := by
  unfold sPar
  cases as env μ with
  | ok l m =>
    match l with
    | [x, y] => rfl
    | [] => rfl
    | [_] => rfl
    | _ :: _ :: _ :: _ => rfl
  | ex _ _ _ _ => rfl
  | stuck => rfl
end
end DL
namespace DL
open PySem PySem.Spec PyProof.Rows L2
def putIx (m : List M) (x n y : D) : Option (List M) := match x, n with
  | .cel i, .int k => match m[i]? with
    | some (.lst l) => match ixN l.length k with
      | some j => some (m.set i (.lst (l.set j y)))
      | none => none
    | _ => none
  | _, _ => none
theorem s_setIx {N : En → List M → Prop} {R : D → List M → Prop} {B C : En → List M → Prop} {Z : Str → List Str → List D → En → List M → Prop} {ks : Ks N R B C Z} {env : En} {μ : List M} {e a i : DE} :
    WS (sSetIx e a i env μ) N R B C Z ks = WO (e env μ) (fun y m => WO (a env m) (fun x m2 => WO (i env m2) (fun n m3 => OP (putIx m3 x n y) (fun m4 => N env m4) ⟨⟩) (fun c ns l m => Z c ns l env m) ⟨⟩) (fun c ns l m => Z c ns l env m) ⟨⟩) (fun c ns l m => Z c ns l env m) ⟨⟩ := by
  unfold sSetIx
  rw [w_bindS]
  cases e env μ with
  | ok y m =>
    show WS ((a env m).bindS env _) N R B C Z ⟨⟩ = WO (a env m) _ _ ⟨⟩
    rw [w_bindS]
    cases a env m with
    | ok x m2 =>
      show WS ((i env m2).bindS env _) N R B C Z ⟨⟩ = WO (i env m2) _ _ ⟨⟩
      rw [w_bindS]
      cases i env m2 with
      | ok n m3 =>
        cases x <;> first | rfl | skip
        cases n <;> first | rfl | skip
        rename_i c k
        show WS (match m3[c]? with | some (.lst l) => (match ixN l.length k with | some j => .nx env (m3.set c (.lst (l.set j y))) | none => .stuck) | _ => .stuck) N R B C Z ⟨⟩ = OP (match m3[c]? with | some (.lst l) => (match ixN l.length k with | some j => some (m3.set c (.lst (l.set j y))) | none => none) | _ => none) _ ⟨⟩
        cases m3[c]? with
        | none => rfl
        | some o =>
          cases o <;> first | rfl | skip
          rename_i l
          dsimp only
          cases ixN l.length k <;> rfl
      | ex _ _ _ _ => rfl
      | stuck => rfl
    | ex _ _ _ _ => rfl
    | stuck => rfl
  | ex _ _ _ _ => rfl
  | stuck => rfl
end DL
namespace DL
open PySem PySem.Spec PyProof.Rows L2
section
variable {m : List M} {i j : Int} {x y : Str} {b c : Bool} {l l' : List D} {d : D}
theorem e_add : opAdd m (.int i) (.int j) = some (.int (i + j)) := id rfl
theorem e_addL {d e : D} (h : lstOf m d = some l) (h' : lstOf m e = some l') : opAdd m d e = if l.length + l'.length ≤ 100000 then some (.lst (l ++ l')) else none := by
  unfold opAdd
  split
  · cases h
  · cases h
  · unfold addSeq
    rw [h, h']
theorem e_sub : opSub m (.int i) (.int j) = some (.int (i - j)) := id rfl
theorem e_mulR (h : -9223372036854775808 < j) (h' : j < 9223372036854775808) : opMul m (.int i) (.int j) = some (.int (i * j)) := by
  have h : j.natAbs < 9223372036854775808 := by omega
  unfold opMul mulSmall
  simp [h]
theorem e_mulL (h : -9223372036854775808 < i) (h' : i < 9223372036854775808) : opMul m (.int i) (.int j) = some (.int (i * j)) := by
  have h : i.natAbs < 9223372036854775808 := by omega
  unfold opMul mulSmall
  simp [h]
theorem e_mod : opMod m (.int i) (.int j) = if 0 < j then some (.int (i % j)) else none := id rfl
theorem e_div : opDiv m (.int i) (.int j) = if 0 < j ∧ j.natAbs.log2 < 9000 then some (.int (i / j)) else none := id rfl
theorem e_divS (h : 0 < j) (h' : j < 9223372036854775808) : opDiv m (.int i) (.int j) = some (.int (i / j)) := by
  have : j.natAbs.log2 < 63 := (Nat.log2_lt (by omega)).mpr (by omega)
  rw [e_div, if_pos ⟨h, by omega⟩]
theorem e_modS (h : 0 < j) : opMod m (.int i) (.int j) = some (.int (i % j)) := by rw [e_mod, if_pos h]
theorem e_pow (h : 0 ≤ j) (h1 : j ≤ 1000000) (h2 : -9223372036854775808 < i) (h3 : i < 9223372036854775808) : opPow m (.int i) (.int j) = some (.int (i ^ j.toNat)) := if_pos ⟨h, h1, by omega⟩
theorem e_lt : opLt m (.int i) (.int j) = some (.bl (decide (i < j))) := id rfl
theorem e_le : opLe m (.int i) (.int j) = some (.bl (decide (i ≤ j))) := id rfl
theorem e_gt : opGt m (.int i) (.int j) = some (.bl (decide (j < i))) := id rfl
theorem e_ge : opGe m (.int i) (.int j) = some (.bl (decide (j ≤ i))) := id rfl
theorem e_is : opIs m d .non = some (.bl (isNn d)) := id rfl
theorem e_isN : opIsN m d .non = some (.bl (!isNn d)) := id rfl
theorem e_eqI : opEq m (.int i) (.int j) = some (.bl (decide (i = j))) := by
  simp [opEq, eqOk, now, plain, dep, eqB]
  rfl
theorem e_neI : opNe m (.int i) (.int j) = some (.bl (!decide (i = j))) := by
  simp [opNe, eqOk, now, plain, dep, eqB]
  rfl
theorem beqS : (x == y) = decide (x = y) := by
  by_cases h : x = y
  · subst h; simp
  · rw [decide_eq_false h]
    exact beq_eq_false_iff_ne.mpr h
theorem e_eqS : opEq m (.str x) (.str y) = some (.bl (decide (x = y))) := by
  simp [opEq, eqOk, now, plain, dep, eqB, beqS]
theorem e_neS : opNe m (.str x) (.str y) = some (.bl (!decide (x = y))) := by
  simp [opNe, eqOk, now, plain, dep, eqB, beqS]
theorem h_bl : truth m (.bl b) = some b := id rfl
theorem h_int : truth m (.int i) = some (decide (i ≠ 0)) := id rfl
theorem h_non : truth m .non = some false := id rfl
theorem b_bl : isB (.bl b) = some b := id rfl
theorem i_int : isI (.int i) = some i := id rfl
theorem s_str : isS (.str x) = some x := id rfl
theorem l_lst : lstOf m (.lst l) = some l := id rfl
theorem q_lst : seqOf m (.lst l) = some l := id rfl
theorem q_tup : seqOf m (.tup l) = some l := id rfl
def cellL : Option M → Option (List D)
  | some (.lst l) => some l
  | _ => none
theorem c_lst : cellL (some (.lst l)) = some l := id rfl
theorem c_seq {i : Nat} : seqOf m (.cel i) = cellL m[i]? := id rfl
theorem c_lis {i : Nat} : lstOf m (.cel i) = cellL m[i]? := id rfl
theorem x_cel {c : Nat} : opIx m (.cel c) (.int i) = (cellL m[c]?).bind fun l => atI l i := by
  show (match seqOf m (.cel c) with | some l => atI l i | none => none) = _
  rw [c_seq]
  cases cellL m[c]? <;> rfl
theorem x_lst : opIx m (.lst l) (.int i) = atI l i := id rfl
theorem x_tup : opIx m (.tup l) (.int i) = atI l i := id rfl
theorem at_nn {α : Type} {l : List α} (h : 0 ≤ i) : atI l i = l[i.toNat]? := by
  unfold atI ixN
  rw [if_pos h]
  by_cases h2 : i < l.length
  · rw [if_pos h2]; rfl
  · rw [if_neg h2]
    exact (List.getElem?_eq_none (by omega)).symm
theorem ix_in {n : Nat} (h : 0 ≤ i) (h' : i.toNat < n) : ixN n i = some i.toNat := by
  unfold ixN
  rw [if_pos h, if_pos (by omega)]
theorem p_cel {c : Nat} {k : Int} {y : D} : putIx m (.cel c) (.int k) y = (cellL m[c]?).bind fun l => (ixN l.length k).bind fun j => some (m.set c (.lst (l.set j y))) := by
  unfold putIx
  dsimp only
  cases m[c]? with
  | none => rfl
  | some o =>
    cases o <;> first | rfl | skip
    rename_i l
    show (match ixN l.length k with | some j => some (m.set c (.lst (l.set j y))) | none => none) = _
    rw [c_lst, Option.bind_some]
    cases ixN l.length k <;> rfl
theorem e_mulIf {p : Prop} [Decidable p] : opMul m (.int i) (.int (if p then 1 else 0)) = some (.int (i * if p then 1 else 0)) := by
  apply e_mulR <;> split <;> decide
theorem e_mulM {n : Int} (h : 0 < n) (h' : n < 9223372036854775808) : opMul m (.int (i % n)) (.int j) = some (.int (i % n * j)) := by
  have h1 := Int.emod_nonneg i (b := n) (by omega)
  have h2 := Int.emod_lt_of_pos i h
  exact e_mulL (by omega) (by omega)
theorem t_len {d : D} (h : seqOf m d = some l) : bLen m [d] = some (.int l.length) := by
  cases d with
  | str z => cases h
  | _ => unfold bLen; simp only [h]
theorem t_intB : bInt m [.bl b] = some (.int (if b = true then 1 else 0)) := id rfl
/-! what a def hands back -/
def FR (n : Nat) (m : List M) (d : D) (Q : D → List M → Prop) : Prop := clean 0 d = true ∧ Cln m ∧ Q d (m.take n)
theorem Cln.set {i : Nat} {x : M} (h : Cln m) (hx : cleanM 0 x = true) : Cln (m.set i x) := fun y hy => by
  rcases List.mem_or_eq_of_mem_set hy with hy | rfl
  · exact h y hy
  · exact hx
theorem Cln.snoc {x : M} (h : Cln m) (hx : cleanM 0 x = true) : Cln (m ++ [x]) := fun y hy => by
  rcases List.mem_append.mp hy with hy | hy
  · exact h y hy
  · rw [List.mem_singleton.mp hy]; exact hx
theorem wo_fn {nN np : Nat} {body : DS} {ds : List D} {Q : D → List M → Prop} {X : XP} (hn : ds.length = np)
    (h : WS (body (start nN ds) m) (fun _ m' => FR m.length m' .non Q) (fun d m' => FR m.length m' d Q) (fun _ _ => False) (fun _ _ => False) (fun c ns l _ m' => cleans 0 l = true ∧ Cln m' ∧ X c ns l (m'.take m.length)) ⟨⟩) :
    WO (fnG nN np body ds m) Q X ⟨⟩ := by
  unfold fnG
  rw [if_pos hn]
  cases e : body (start nN ds) m with
  | nx e' m' =>
    rw [e] at h
    obtain ⟨h1, h2, h3⟩ := h
    rw [fin_nx h2.all]
    exact h3
  | rt d m' =>
    rw [e] at h
    obtain ⟨h1, h2, h3⟩ := h
    rw [fin_rt (clean_up d h1) h2.all]
    exact h3
  | ex c ns l e' m' =>
    rw [e] at h
    obtain ⟨h1, h2, h3⟩ := h
    rw [fin_ex (cleans_up l h1) h2.all]
    exact h3
  | bk _ _ => rw [e] at h; exact h.elim
  | ct _ _ => rw [e] at h; exact h.elim
  | stuck => rw [e] at h; exact h.elim
/-- a def that hands back a new list -/
theorem wo_fnN {nN np : Nat} {body : DS} {ds : List D} {Q : List D → List M → Prop} {X : XP} (hn : ds.length = np)
    (h : WS (body (start nN ds) m) (fun _ _ => False) (fun d m' => ∃ i l, d = .cel i ∧ m.length ≤ i ∧ m'[i]? = some (.lst l) ∧ cleans 0 l = true ∧ Cln m' ∧ Q l (m'.take m.length)) (fun _ _ => False) (fun _ _ => False) (fun c ns l _ m' => cleans 0 l = true ∧ Cln m' ∧ X c ns l (m'.take m.length)) ⟨⟩) :
    WO (fnN nN np body ds m) Q X ⟨⟩ := by
  unfold fnN
  rw [if_pos hn]
  cases e : body (start nN ds) m with
  | nx e' m' => rw [e] at h; exact h.elim
  | rt d m' =>
    rw [e] at h
    obtain ⟨i, l, rfl, h1, h2, h3, h4, h5⟩ := h
    dsimp only [finN]
    rw [if_pos ⟨h1, h4.all⟩, h2]
    dsimp only
    rw [if_pos (cleans_up l h3)]
    exact h5
  | ex c ns l e' m' =>
    rw [e] at h
    obtain ⟨h1, h2, h3⟩ := h
    dsimp only [finN, finL]
    rw [subs_clean l (cleans_up l h1), subMs_clean _ h2.all]
    exact h3
  | bk _ _ => rw [e] at h; exact h.elim
  | ct _ _ => rw [e] at h; exact h.elim
  | stuck => rw [e] at h; exact h.elim
end
end DL
namespace DL
open PySem PySem.Spec PyProof.Rows L2
section
variable {α β : Type} {X : XP} {N : En → List M → Prop} {R : D → List M → Prop} {B C : En → List M → Prop} {Z : Str → List Str → List D → En → List M → Prop} {ks : Ks N R B C Z} {env : En} {μ : List M}
theorem WS.mono {o : SO} {N' R' B' C' Z'} {k : Ks N R B C Z} (h : WS o N R B C Z k) (n : ∀ e m, N e m → N' e m) (r : ∀ d m, R d m → R' d m) (b : ∀ e m, B e m → B' e m) (c : ∀ e m, C e m → C' e m) (z : ∀ x ns l e m, Z x ns l e m → Z' x ns l e m) : WS o N' R' B' C' Z' ⟨⟩ := by
  cases o with
  | nx e m => exact n e m h
  | rt d m => exact r d m h
  | bk e m => exact b e m h
  | ct e m => exact c e m h
  | ex x ns l e m => exact z x ns l e m h
  | stuck => exact h
/-! while -/
/-! for -/
theorem guard_of {g : List M → Prop} {m : List M} (h : g m) : guard g m = true := by
  unfold guard
  exact @decide_eq_true _ (Classical.propDecidable _) h
theorem s_forGo {g : List M → Prop} {tg : DG} {body : DS} (I : List D → En → List M → Prop) (h0 : ∀ e m, I [] e m → g m ∧ N e m)
    (h1 : ∀ x xs e m, I (x :: xs) e m → g m ∧ OP (tg x e m) (fun e1 => WS (body e1 m) (I xs) R N (I xs) Z ⟨⟩) ⟨⟩) : ∀ (l : List D) (e : En) (m : List M), I l e m → WS (forGo g tg body l e m) N R B C Z ⟨⟩
  | [], e, m, h => by
    obtain ⟨k1, k2⟩ := h0 e m h
    rw [forGo, guard_of k1]
    exact k2
  | x :: xs, e, m, h => by
    obtain ⟨k1, k2⟩ := h1 x xs e m h
    rw [forGo, guard_of k1, if_pos rfl]
    cases e1 : tg x e m with
    | none => rw [e1] at k2; exact k2.elim
    | some e2 =>
      rw [e1] at k2
      have k2 : WS (body e2 m) (I xs) R N (I xs) Z ⟨⟩ := k2
      dsimp only
      cases e3 : body e2 m with
      | nx e4 m4 => rw [e3] at k2; exact s_forGo I h0 h1 xs e4 m4 k2
      | ct e4 m4 => rw [e3] at k2; exact s_forGo I h0 h1 xs e4 m4 k2
      | bk e4 m4 => rw [e3] at k2; exact k2
      | rt d m4 => rw [e3] at k2; exact k2
      | ex c ns l e4 m4 => rw [e3] at k2; exact k2
      | stuck => rw [e3] at k2; exact k2.elim
theorem s_for {di : DI} {tg : DG} {body : DS} : WS (dFor di tg body env μ) N R B C Z ks = WO (di env μ) (fun lg m => WS (forGo lg.2 tg body lg.1 env m) N R B C Z ⟨⟩) (fun c ns l m => Z c ns l env m) ⟨⟩ := by
  unfold dFor
  exact w_bindS
def rngOne : List D → Option Int
  | [.int n] => if -(2 ^ 62) ≤ n ∧ n < 2 ^ 62 then some n else none
  | _ => none
theorem r_one {n : Int} (h : -4611686018427387904 ≤ n) (h' : n < 4611686018427387904) : rngOne [.int n] = some n := by
  dsimp only [rngOne]
  rw [if_pos (by constructor <;> omega)]
theorem i_rng {Q : List D × (List M → Prop) → List M → Prop} {k : Kt Q X} {a : DA} : WO (iRng a env μ) Q X k = WO (a env μ) (fun l m => OP (rngOne l) (fun n => Q (iota 0 n.toNat, fun _ => True) m) ⟨⟩) X ⟨⟩ := by
  unfold iRng
  cases a env μ with
  | ok l m =>
    match l with
    | [.int n] =>
      show WO (if -(2 ^ 62) ≤ n ∧ n < 2 ^ 62 then _ else _) Q X _ = OP (if -(2 ^ 62) ≤ n ∧ n < 2 ^ 62 then some n else none) _ ⟨⟩
      by_cases h : -(2 ^ 62) ≤ n ∧ n < 2 ^ 62
      · rw [if_pos h, if_pos h]; rfl
      · rw [if_neg h, if_neg h]; rfl
    | [] => rfl
    | _ :: _ :: _ => first | rfl | (rename_i x _ _; cases x <;> rfl)
    | [.non] => rfl
    | [.bl _] => rfl
    | [.str _] => rfl
    | [.ty _] => rfl
    | [.glo _] => rfl
    | [.tup _] => rfl
    | [.lst _] => rfl
    | [.dct _ _] => rfl
    | [.obj _ _ _] => rfl
    | [.cel _] => rfl
    | [.scr _] => rfl
    | [.exc _ _ _] => rfl
    | [.txt] => rfl
  | ex _ _ _ _ => rfl
  | stuck => rfl
/-! comprehensions -/
theorem w_lc {di : DI} {tg : DG} {tt : DT} {el : DE} {vs : List Nat} {Q : D → List M → Prop} {k : Kt Q X} : WO (dLcF di tg tt el vs env μ) Q X k = WO (di env μ) (fun lg m => WO (lcGo lg.2 tg tt el (wipeE env vs) lg.1 m []) (fun l m2 => Q (.lst l) m2) X ⟨⟩) X ⟨⟩ := by
  unfold dLcF dLc
  cases di env μ with
  | ok lg m =>
    show WO ((lcGo lg.2 tg tt el (wipeE env vs) lg.1 m []).bind _) Q X _ = _
    rw [w_bind]
    rfl
  | ex _ _ _ _ => rfl
  | stuck => rfl
end
end DL
namespace DL
open PySem PySem.Spec PyProof.Rows L2
section
variable {X : XP} {N : En → List M → Prop} {R : D → List M → Prop} {B C : En → List M → Prop} {Z : Str → List Str → List D → En → List M → Prop} {ks : Ks N R B C Z} {env : En} {μ : List M}
def celI : D → Option Nat
  | .cel i => some i
  | _ => none
theorem g_cel {i : Nat} : celI (.cel i) = some i := id rfl
theorem s_app {a e : DE} : WS (sApp a e env μ) N R B C Z ks = WO (a env μ) (fun x m => OP (celI x) (fun i => OP (cellL m[i]?) (fun _ => WO (e env m) (fun y m2 => OP (cellL m2[i]?) (fun l => l.length < 100000 ∧ N env (m2.set i (.lst (l ++ [y])))) ⟨⟩) (fun c ns l m => Z c ns l env m) ⟨⟩) ⟨⟩) ⟨⟩) (fun c ns l m => Z c ns l env m) ⟨⟩ := by
  unfold sApp
  rw [w_bindS]
  cases a env μ with
  | ok x m =>
    cases x <;> first | rfl | skip
    rename_i i
    show WS (match m[i]? with | some (.lst _) => _ | _ => .stuck) N R B C Z ⟨⟩ = OP (cellL m[i]?) _ ⟨⟩
    cases m[i]? with
    | none => rfl
    | some o =>
      cases o <;> first | rfl | skip
      show WS ((e env m).bindS env _) N R B C Z ⟨⟩ = WO (e env m) _ _ ⟨⟩
      rw [w_bindS]
      cases e env m with
      | ok y m2 =>
        show WS (match m2[i]? with | some (.lst l) => (if l.length < 100000 then .nx env (m2.set i (.lst (l ++ [y]))) else .stuck) | _ => .stuck) N R B C Z ⟨⟩ = OP (cellL m2[i]?) _ ⟨⟩
        cases m2[i]? with
        | none => rfl
        | some o =>
          cases o <;> first | rfl | skip
          rename_i l
          show WS (if l.length < 100000 then .nx env (m2.set i (.lst (l ++ [y]))) else .stuck) N R B C Z ⟨⟩ = (l.length < 100000 ∧ _)
          by_cases h : l.length < 100000
          · rw [if_pos h]; exact propext ⟨fun q => ⟨h, q⟩, fun q => q.2⟩
          · rw [if_neg h]; exact propext ⟨fun q => q.elim, fun q => absurd q.1 h⟩
      | ex _ _ _ _ => rfl
      | stuck => rfl
  | ex _ _ _ _ => rfl
  | stuck => rfl
def rngTwo : List D → Option (Int × Int)
  | [.int a, .int b] => if -(2 ^ 62) ≤ a ∧ a < 2 ^ 62 ∧ -(2 ^ 62) ≤ b ∧ b < 2 ^ 62 then some (a, b) else none
  | _ => none
theorem i_rng2 {Q : List D × (List M → Prop) → List M → Prop} {k : Kt Q X} {a : DA} : WO (iRngTwo a env μ) Q X k = WO (a env μ) (fun l m => OP (rngTwo l) (fun p : Int × Int => Q (iota p.1 (p.2 - p.1).toNat, fun _ => True) m) ⟨⟩) X ⟨⟩ := by
  unfold iRngTwo
  cases a env μ with
  | ok l m =>
    have go : ∀ l : List D, WO (α := List D × (List M → Prop)) (match l with | [.int a, .int b] => (if -(2 ^ 62) ≤ a ∧ a < 2 ^ 62 ∧ -(2 ^ 62) ≤ b ∧ b < 2 ^ 62 then Out.ok (iota a (b - a).toNat, fun _ : List M => True) m else Out.stuck) | _ => Out.stuck) Q X ⟨⟩ = OP (rngTwo l) (fun p : Int × Int => Q (iota p.1 (p.2 - p.1).toNat, fun _ => True) m) ⟨⟩ := by
      intro l
      unfold rngTwo
      split
      · rename_i a b
        by_cases h : -(2 ^ 62) ≤ a ∧ a < 2 ^ 62 ∧ -(2 ^ 62) ≤ b ∧ b < 2 ^ 62
        · rw [if_pos h, if_pos h]; rfl
        · rw [if_neg h, if_neg h]; rfl
      · rfl
    exact go l
  | ex _ _ _ _ => rfl
  | stuck => rfl
end
end DL
namespace DL
open PySem PySem.Spec PyProof.Rows L2
/-! ### x == y, x an object of a class with an own __eq__ -/
section
variable {X : Cx} {S : Sx} {W : WX} {a b e : Expr} {ta tb : TE} {da db d : DE} {pos : Pos} {k : Nat}
def dOwn (c : Str) (G : GF) (da db : DE) : DE := fun env μ => (da env μ).bind fun x μ1 => (db env μ1).bind fun y μ2 => if clsAt μ2 x = some c ∧ (tagOf μ2 y).isSome = true then (G [x, y] μ2).bind fun r μ3 => (match r with
  | .bl b => .ok (.bl b) μ3
  | _ => .stuck) else .stuck
variable {S0 : Sx} {n : Nat} {kr : Nat} {G : GF} {c : Str}
end
end DL
namespace PySem.W
open PySem PySem.Calls PyProof.Rows
end PySem.W
namespace DL
open PySem PySem.Spec PyProof.Rows L2
/-! ### x != y, x an object of a class with an own __eq__ and no __ne__ -/
section
variable {X : Cx} {S : Sx} {W : WX} {a b e : Expr} {ta tb : TE} {da db d : DE} {pos : Pos} {k : Nat}
def dNe (c : Str) (G : GF) (da db : DE) : DE := fun env μ => (da env μ).bind fun x μ1 => (db env μ1).bind fun y μ2 => if clsAt μ2 x = some c ∧ (tagOf μ2 y).isSome = true then (G [x, y] μ2).bind fun r μ3 => (match r with
  | .bl b => .ok (.bl (!b)) μ3
  | _ => .stuck) else .stuck
variable {S0 : Sx} {n : Nat} {kr : Nat} {G : GF} {c : Str}
end
end DL
namespace DL
open PySem PySem.Spec PyProof.Rows L2
/-! ### makings with keywords -/
def pick {α : Type} (idx : List Nat) (xs : List α) : List α := idx.filterMap fun i => xs[i]?
section
variable {X : Cx} {S : Sx} {W : WX} {a b e : Expr} {es : List Expr} {da db d : DE} {ds dk : DA} {pos p kpos : Pos} {k : Nat} {nm : Option Str} {kws : List Keyword} {f : Addr} {fd : FuncData} {ps ks : List Str} {np n : Nat} {G : GF} {dd : List D} {idx : List Nat}
/-- how a making's call with keywords binds -/
structure KwM (S : Sx) (K : PySem.W.Frag) (fd : FuncData) (ps : List Str) (n : Nat) (ks : List Str) (idx : List Nat) (dd : List D) : Prop where
  ex : ∃ (dvs : List V) (its : List Value), Vals dvs its ∧ (∀ io F, reps S io F dd dvs) ∧ ∀ (s : Shared) (self : Value) (us ws : List Value), K.In s.heap → us.length = n → ws.length = ks.length →
    BindsTo s fd ⟨self :: us, ks.zip ws⟩ (ps.zip (self :: pick idx (us ++ (ws ++ its))))
def aPick (n m : Nat) (idx : List Nat) (dd : List D) (ds dk : DA) : DA := fun env μ => (ds env μ).bind fun l μ1 => (dk env μ1).bind fun z μ2 => if l.length = n ∧ z.length = m then .ok (pick idx (l ++ (z ++ dd))) μ2 else .stuck
end
end DL
namespace DL
open PySem PySem.Spec PyProof.Rows L2
/-! ### str(x), repr(x), f'{x}' of an object whose class says how -/
section
variable {X : Cx} {S : Sx} {W : WX} {a b e : Expr} {ta tb : TE} {da db d : DE} {pos p : Pos} {k : Nat} {C f : Addr} {fd : FuncData} {ps : List Str} {sp : Sp}
theorem run_atA {A' : Around} (hfr : A'.frames = X.A.frames) (F : FnOk X.prog X.w X.K X.mg X.base (L2M.CX md X.prog X.w) k f fd ps sp) (hr : Room k A') (tk : L2M.Takes md X W) (hb : Binds X.K fd ps [])
    {pins : List (Addr × Obj)} {σ : L2.St} {H : Hp} {s : Shared} {us : List Value} {vs : List V} {Q : VK} (I : Inv X pins σ H s) (r : Vals vs us) (h : sp vs H Q (WE W σ)) : wpAny (model X.prog X.w) A' (call (.ref f) us) (EP X pins σ Q) X.xe s := by
  have hl := F.len _ _ _ _ h
  have e0 : Env0 X.prog X.w X.K X.mg X.base A' X.stack s H := by
    have e := I.env0
    exact ⟨hfr.trans e.frames, e.mod, e.bs, e.bsz, e.funs, e.frf, e.hok, e.bare⟩
  refine wpAny_call (codeAny_mono (F.run A' X.stack s H ⟨us, []⟩ us vs Q (WE W σ) hr e0 (by
    have := hb s us I.kIn (by rw [List.append_nil, ← r.length]; exact hl)
    rwa [List.append_nil] at this) r h) fun r s' hq => ?_)
  cases r with
  | error e => exact (L2M.passAt tk σ) pins H s e s' I hq
  | ok fl =>
    cases fl with
    | ret u => exact I.after hq
    | next => exact False.elim hq
    | brk => exact False.elim hq
    | cont => exact False.elim hq
def dObS (c : Str) (G : GF) (da : DE) : DE := fun env μ => (da env μ).bind fun x μ1 => if clsAt μ1 x = some c then (G [x] μ1).bind fun r μ2 => (match r with
  | .str z => .ok (.str z) μ2
  | _ => .stuck) else .stuck
variable {S0 : Sx} {n : Nat} {kr : Nat} {G : GF} {c : Str}
/-! f'{x}' of a text, an int, None -/
def fmtS : D → Option Str
  | .str z => if z.length ≤ 100000 then some z else none
  | .int i => if i.natAbs.log2 < 1920 then some (toString i) else none
  | .non => some "None"
  | _ => none
def dFmt (da : DE) : DE := fun env μ => (da env μ).bind fun x μ1 => match fmtS x with
  | some z => .ok (.str z) μ1
  | none => .stuck
/-! the parts of f'..' -/
def fsGo : List DE → Str → En → List M → Out D
  | [], acc, _, μ => .ok (.str acc) μ
  | d :: ds, acc, env, μ => (d env μ).bind fun x μ1 => match x with
    | .str y => if (acc ++ y).length ≤ 100000 then fsGo ds (acc ++ y) env μ1 else .stuck
    | _ => .stuck
def dFs (ds : List DE) : DE := fun env μ => fsGo ds Str.empty env μ
/-! ### a local name that holds a def -/
def dCallA (i : Nat) (ds : DA) : List (Str × Nat × GF) → DE
  | [] => fun _ _ => .stuck
  | (x, np, G) :: cs => fun env μ => match env[i]?.join with
    | some (.glo y) => if y = x then (ds env μ).bind fun l μ1 => if l.length = np then G l μ1 else .stuck else dCallA i ds cs env μ
    | _ => .stuck
theorem pd_ca_nil {i : Nat} {ds : DA} : PDE X S W e (dCallA i ds []) := ⟨fun _ _ _ => False, ⟨fun _ _ _ _ _ _ h => h.elim⟩, fun _ _ _ _ _ _ _ q => q.elim⟩
theorem pe_callLS {i : Nat} {y : Str} {e0 : Expr} {es : List Expr} {t : TA} (F : FnOk X.prog X.w X.K X.mg X.base (L2M.CX md X.prog X.w) k f fd ps sp) (hr : Room k X.A) (tk : L2M.Takes md X W) (hN : X.N[i]? = some y) (hv : Vis X.env.scope y) (hk : PySem.W.keepIn X.K (.ref f) = true) (hb : Binds X.K fd ps []) (ha : PA X (e0 :: es) t)
    (hdb : (y == ("__debug__" : Str)) = false) (hcd : (y == ("__classdict__" : Str)) = false)
    (he : starEach (e0 :: es) X.env = (false, eval e0 X.env) :: starEach es X.env) (hpl : (backTo pos (starEach es X.env)).any (·.1) = false) :
    PE X (.Call (.Name y p) (e0 :: es) [] pos) (fun σ H Q => σ[i]? = some (some (.ref f)) ∧ t σ H fun vs H1 => sp vs H1 Q (WE W σ)) := by
  refine ⟨fun pins s σ H Q I h => ?_⟩
  obtain ⟨hs, ht⟩ := h
  refine wpAny_Call_Name_kw (thn ((pe_var (pos := p) hN hv hdb hcd).run pins s σ H (fun v H1 => v = .ref f ∧ H1 = H) I ⟨.ref f, hs, rfl, rfl⟩) fun u s1 ⟨v, H1, I1, r1, q1⟩ => ?_)
  obtain ⟨rfl, rfl⟩ := q1
  cases r1
  refine PySem.W.callWith_K (h₀ := X.base) I.ok.mod.kin hk (thn (ha.run pos pins s1 σ _ _ I1 ht) fun us s2 ⟨vs, H2, I2, r, q⟩ => ⟨I2.kIn, ?_⟩) he hpl
  exact run_fnSD F hr hb .nil (L2M.passAt tk σ) I2 (dvs := []) r (by rw [List.append_nil]; exact q)
theorem pd_ca_cons {i : Nat} {ds : DA} {cs : List (Str × Nat × GF)} {y x : Str} {e0 : Expr} {es : List Expr} {np : Nat} (hK : X.K = S0.K) (hm : X.mg x = some (.ref (S0.A x))) (hc : CalD md X.prog X.w X.K X.mg X.base (at0 S0 0) k x np G []) (hr : Room kr X.A) (hk : k ≤ kr) (tk : L2M.Takes md X W) (hN : X.N[i]? = some y) (hv : Vis X.env.scope y) (ha : PDA X (at0 S0 n) W (e0 :: es) ds)
    (hrest : PDE X (at0 S0 n) W (.Call (.Name y p) (e0 :: es) [] pos) (dCallA i ds cs)) (hdb : (y == ("__debug__" : Str)) = false := by decide) (hcd : (y == ("__classdict__" : Str)) = false := by decide)
    (he : starEach (e0 :: es) X.env = (false, eval e0 X.env) :: starEach es X.env := by rfl) (hpl : (backTo pos (starEach es X.env)).any (·.1) = false := by rfl) :
    PDE X (at0 S0 n) W (.Call (.Name y p) (e0 :: es) [] pos) (dCallA i ds ((x, np, G) :: cs)) := by
  obtain ⟨f, fd, ps, h1, h2, h3, h4⟩ := hc.ex
  have ef : f = S0.A x := by
    rw [hm] at h1
    cases h1
    rfl
  subst ef
  obtain ⟨dvs, dV, b1, b2, b3⟩ := (h3 0 (Nat.le_refl _)).ex
  have e1 := (b3 [] (fun _ => none)).eq_nil
  subst e1
  cases b2
  obtain ⟨t, pa, ka⟩ := ha.ex
  obtain ⟨t2, p2, k2⟩ := hrest.ex
  have p1 := pe_callLS (W := W) (p := p) (pos := pos) (i := i) (y := y) (h4.mono hk) hr tk hN hv h2 b1 pa hdb hcd he hpl
  refine ⟨fun σ H Q => (σ[i]? = some (some (.ref (S0.A x))) ∧ t σ H fun vs H1 => spD (at0 S0 0) np G vs H1 Q (WE W σ)) ∨ t2 σ H Q, ⟨fun pins s σ H Q I h => h.elim (p1.run pins s σ H Q I) (p2.run pins s σ H Q I)⟩, fun env σ c μ Q I en q => ?_⟩
  have q : EQ (at0 S0 n) W σ c Q (match env[i]?.join with | some (.glo y) => if y = x then (ds env μ).bind fun l μ1 => if l.length = np then G l μ1 else .stuck else dCallA i ds cs env μ | _ => .stuck) := q
  cases e2 : env[i]? with
  | none => rw [e2] at q; exact q.elim
  | some o =>
    cases o with
    | none => rw [e2] at q; exact q.elim
    | some d =>
      rw [e2] at q
      cases d with
      | glo z =>
        have q2 : EQ (at0 S0 n) W σ c Q (if z = x then (ds env μ).bind fun l μ1 => if l.length = np then G l μ1 else .stuck else dCallA i ds cs env μ) := q
        clear q
        by_cases hz : z = x
        · rw [if_pos hz] at q2
          subst hz
          obtain ⟨v, hs, rv⟩ := en.at_ i _ e2
          have rv := rep_glo.mp rv
          subst rv
          refine .inl ⟨hs, ?_⟩
          refine bindAE (fun Q' => ka env σ c μ Q' I en) q2 fun l μ1 vs c2 s1 I1 r1 q1 => ?_
          by_cases hl : l.length = np
          · rw [if_pos hl] at q1
            exact sp_at (S := at0 S0 n) I1 r1 hl q1
          · rw [if_neg hl] at q1
            exact q1.elim
        · rw [if_neg hz] at q2
          exact .inr (k2 env σ c μ Q I en q2)
      | _ => exact q.elim
end
end DL
namespace DL
open PySem PySem.Spec PyProof.Rows L2
/-! ### defaults, as data -/
def toV : D → V
  | .non => .non | .bl b => .bl b | .int i => .int i | .str s => .str s
  | _ => .non
def isSimple : D → Bool
  | .non => true | .bl _ => true | .int _ => true | .str s => okS s
  | _ => false
theorem rep_simple {S : Sx} {io : List Addr} {F : Hp} : ∀ {d : D}, isSimple d = true → rep S io F d (toV d)
  | .non, _ => rep_non.mpr rfl
  | .bl _, _ => rep_bl.mpr rfl
  | .int _, _ => rep_int.mpr rfl
  | .str _, h => rep_str.mpr ⟨rfl, h⟩
  | .ty _, h => nomatch h
  | .glo _, h => nomatch h
  | .tup _, h => nomatch h
  | .lst _, h => nomatch h
  | .dct _ _, h => nomatch h
  | .obj _ _ _, h => nomatch h
  | .cel _, h => nomatch h
  | .scr _, h => nomatch h
  | .exc _ _ _, h => nomatch h
theorem reps_simple {S : Sx} {io : List Addr} {F : Hp} : ∀ {l : List D}, l.all isSimple = true → reps S io F l (l.map toV)
  | [], _ => .nil
  | d :: l, h => by
    have h := Bool.and_eq_true_iff.mp h
    exact .cons (rep_simple h.1) (reps_simple h.2)
section
variable {K : PySem.W.Frag} {x qual : Str} {params : Arguments} {body : List Stmt} {scope : Scope} {dvs : List V} {kws : List (Str × V)} {f : Addr} {fd : FuncData} {ps ks : List Str} {S : Sx} {dd : List D} {ds : List Value} {n : Nat} {idx : List Nat}
theorem dfl_of {j : Nat} (hs : dd.all isSimple = true) (h : Vals ((dd.map toV).drop j) ds) (hb : Binds K fd ps ds) : DflD S K fd ps (dd.drop j) :=
  ⟨_, _, hb, h, fun io F => (reps_simple hs).drop j⟩
/-! ### keywords -/
/-- how a def's call with keywords binds -/
structure KwF (S : Sx) (K : PySem.W.Frag) (fd : FuncData) (ps : List Str) (n : Nat) (ks : List Str) (idx : List Nat) (dd : List D) : Prop where
  ex : ∃ (dvs : List V) (its : List Value), Vals dvs its ∧ (∀ io F, reps S io F dd dvs) ∧ ∀ (s : Shared) (us ws : List Value), K.In s.heap → us.length = n → ws.length = ks.length →
    BindsTo s fd ⟨us, ks.zip ws⟩ (ps.zip (pick idx (us ++ (ws ++ its))))
end
section
variable {X : Cx} {S : Sx} {W : WX} {a b e o : Expr} {es : List Expr} {da db d : DE} {ds dk : DA} {pos p apos : Pos} {k : Nat} {nm : Option Str} {kws : List Keyword} {f : Addr} {fd : FuncData} {ps ks : List Str} {np n : Nat} {G : GF} {dd : List D} {idx : List Nat} {x m c : Str} {sp : Sp}
/-! the bundles that a walk takes -/
theorem KwM.at0 {S : Sx} {n1 : Nat} {K : PySem.W.Frag} (h : KwM S K fd ps n ks idx dd) : KwM (DL.at0 S n1) K fd ps n ks idx dd := by
  obtain ⟨a, b, h1, h2, h3⟩ := h.ex
  exact ⟨a, b, h1, fun io F => (reps_at _).mpr (h2 io F), h3⟩
theorem KwF.at0 {S : Sx} {n1 : Nat} {K : PySem.W.Frag} (h : KwF S K fd ps n ks idx dd) : KwF (DL.at0 S n1) K fd ps n ks idx dd := by
  obtain ⟨a, b, h1, h2, h3⟩ := h.ex
  exact ⟨a, b, h1, fun io F => (reps_at _).mpr (h2 io F), h3⟩
variable {S0 : Sx} {n0 kr : Nat}
end
end DL
namespace DL
open PySem PySem.Spec PyProof.Rows L2
section
variable {X : Cx} {S : Sx} {W : WX} {a b e o tg : Expr} {es : List Expr} {da db d : DE} {ds dk : DA} {pos p tpos : Pos} {k : Nat} {m : Str}
/-! ### {} -/
def dDct0 : DE := fun _ μ => .ok (.dct [] []) μ
theorem pd_dct0 : PDE X S W (.Dict [] [] pos) dDct0 := by
  refine ⟨_, pe_dnewK, fun env σ c μ Q I en q => ?_⟩
  refine (show ∀ d, c.H d = none → Q (.ref d) (upd c.H d (.dK [])) from fun d hd => ?_)
  obtain ⟨I2, s2⟩ := I.fresh (o := .dK []) hd
  refine q (.ref d) _ s2 I2 ?_
  unfold rep
  exact ⟨d, [], rfl, upd_same, rfl, .nil⟩
/-! ### over a list, a tuple, a text: whichever it is -/
def itAny (μ : List M) : D → Option (List D × (List M → Prop))
  | .tup l => some (l, fun _ => True)
  | .str z => some (signs z, fun _ => True)
  | x => match seqOf μ x with
    | some l => some (l, fun μ2 => seqOf μ2 x = some l)
    | none => none
def iAny (da : DE) : DI := fun env μ => (da env μ).bind fun x μ1 => match itAny μ1 x with
  | some r => .ok r μ1
  | none => .stuck
theorem PI_or {w1 w2 : TI} (h1 : PI X tg e w1) (h2 : PI X tg e w2) : PI X tg e (fun σ H R => w1 σ H R ∨ w2 σ H R) :=
  ⟨fun pins s σ H R I h => h.elim (h1.run pins s σ H R I) (h2.run pins s σ H R I)⟩
theorem pdi_any (hK : X.K = S.K) (ha : PDE X S W a da) : PDI X S W tg a (iAny da) := by
  obtain ⟨w1, p1, k1⟩ := (pdi_seq (tg := tg) hK ha).ex
  obtain ⟨w2, p2, k2⟩ := (pdi_tup (tg := tg) hK ha).ex
  obtain ⟨w3, p3, k3⟩ := (pdi_str (tg := tg) ha).ex
  refine ⟨_, PI_or p1 (PI_or p2 p3), fun env σ c μ R I en q => ?_⟩
  unfold iAny at q
  have f1 := k1 env σ c μ R I en
  have f2 := k2 env σ c μ R I en
  have f3 := k3 env σ c μ R I en
  unfold iSeq at f1
  unfold iTupD at f2
  unfold iStrD at f3
  cases ed : da env μ with
  | ok x μ1 =>
    rw [ed] at q f1 f2 f3
    have go : ∀ y, x = y → (∀ l, y ≠ .tup l) → (∀ z, y ≠ .str z) → w1 σ c.H R := fun y ey n1 n2 => by
      subst ey
      refine f1 ?_
      cases x with
      | tup l => exact absurd rfl (n1 l)
      | str z => exact absurd rfl (n2 z)
      | _ =>
        all_goals
          first
          | (rename_i u
             have q : IQ S W σ c R (match (match seqOf μ1 _ with | some l => some (l, fun μ2 => seqOf μ2 _ = some l) | none => none) with | some r => .ok r μ1 | none => .stuck) := q
             revert q
             show IQ S W σ c R (match (match seqOf μ1 _ with | some l => some (l, fun μ2 => seqOf μ2 _ = some l) | none => none) with | some r => .ok r μ1 | none => .stuck) → IQ S W σ c R (match seqOf μ1 _ with | some l => _ | none => .stuck)
             cases seqOf μ1 _ with
             | none => exact fun q => q
             | some l => exact fun q => q)
          | exact q
    cases x with
    | tup l => exact .inr (.inl (f2 q))
    | str z => exact .inr (.inr (f3 q))
    | _ => exact .inl (go _ rfl (fun _ z => nomatch z) (fun _ z => nomatch z))
  | ex x ns l μ1 => rw [ed] at q f1; exact .inl (f1 q)
  | stuck => rw [ed] at q; exact q.elim
/-! ### isinstance(x, (A, B)) -/
def isSubs (t : Ty) (us : List Str) : Bool := us.any fun u => isSub t (.inr u)
def dIsT (us : List Str) (da : DE) : DE := fun env μ => (da env μ).bind fun x μ1 => match tagOf μ1 x with
  | some t => .ok (.bl (isSubs t us)) μ1
  | none => .stuck
/-! ### in, not in -/
def flatD : D → Bool
  | .non => true | .bl _ => true | .int _ => true | .str _ => true
  | _ => false
def inD (x : D) (l : List D) : Bool := l.any fun y => eqB y x
def opIn (neg : Bool) (μ : List M) (x y : D) : Option D := match x, y with
  | .str i, .str j => some (.bl (if neg then !(!(Builtin.Str.occurrences j i 0 j.length 1).isEmpty) else !(Builtin.Str.occurrences j i 0 j.length 1).isEmpty))
  | x, y => match seqOf μ y with
    | some l => if (flatD x && l.all flatD) = true then some (.bl (if neg then !inD x l else inD x l)) else none
    | none => none
theorem flat_at {io : List Addr} {F : Hp} {d : D} {v : V} (r : rep S io F d v) (h : flatD d = true) : flatV v = true := by
  cases d with
  | non => rw [rep_non.mp r]; rfl
  | bl b => rw [rep_bl.mp r]; rfl
  | int b => rw [rep_int.mp r]; rfl
  | str b => rw [(rep_str.mp r).1]; rfl
  | _ => cases h
theorem flats_at {io : List Addr} {F : Hp} : ∀ {l : List D} {xs : List V}, reps S io F l xs → l.all flatD = true → xs.all flatV = true
  | [], _, r, _ => by rw [r.eq_nil]; rfl
  | d :: l, _, r, h => by
    obtain ⟨x, q, rfl, r1, r2⟩ := r.uncons
    have h := Bool.and_eq_true_iff.mp h
    rw [List.all_cons, flat_at r1 h.1, flats_at r2 h.2]
    rfl
theorem eqV_at {io : List Addr} {F : Hp} {d d' : D} {v v' : V} (r : rep S io F d v) (r' : rep S io F d' v') (h : flatD d = true) (h' : flatD d' = true) : eqV v v' = eqB d d' := by
  cases d with
  | non => rw [rep_non.mp r]; cases d' with
    | non => rw [rep_non.mp r']; unfold eqB; rfl
    | bl b => rw [rep_bl.mp r']; unfold eqB; rfl
    | int b => rw [rep_int.mp r']; unfold eqB; rfl
    | str b => rw [(rep_str.mp r').1]; unfold eqB; rfl
    | _ => cases h'
  | bl a => rw [rep_bl.mp r]; cases d' with
    | non => rw [rep_non.mp r']; unfold eqB; rfl
    | bl b => rw [rep_bl.mp r']; unfold eqB; rfl
    | int b => rw [rep_int.mp r']; unfold eqB; rfl
    | str b => rw [(rep_str.mp r').1]; unfold eqB; rfl
    | _ => cases h'
  | int a => rw [rep_int.mp r]; cases d' with
    | non => rw [rep_non.mp r']; unfold eqB; rfl
    | bl b => rw [rep_bl.mp r']; unfold eqB; rfl
    | int b => rw [rep_int.mp r']; unfold eqB; rfl
    | str b => rw [(rep_str.mp r').1]; unfold eqB; rfl
    | _ => cases h'
  | str a => rw [(rep_str.mp r).1]; cases d' with
    | non => rw [rep_non.mp r']; unfold eqB; rfl
    | bl b => rw [rep_bl.mp r']; unfold eqB; rfl
    | int b => rw [rep_int.mp r']; unfold eqB; rfl
    | str b => rw [(rep_str.mp r').1]; unfold eqB; rfl
    | _ => cases h'
  | _ => cases h
theorem inV_at {io : List Addr} {F : Hp} {d : D} {v : V} (r : rep S io F d v) (h : flatD d = true) : ∀ {l : List D} {xs : List V}, reps S io F l xs → l.all flatD = true → inV v xs = inD d l
  | [], _, rs, _ => by rw [rs.eq_nil]; rfl
  | e :: l, _, rs, hs => by
    obtain ⟨x, q, rfl, r1, r2⟩ := rs.uncons
    have hs := Bool.and_eq_true_iff.mp hs
    unfold inV inD
    rw [List.any_cons, List.any_cons, eqV_at r1 r hs.1 h]
    have := inV_at r h r2 hs.2
    unfold inV inD at this
    rw [this]
theorem po_inG {neg : Bool} {op : CmpOp} (hK : X.K = S.K) (o1 : OpR X (compareOp op) (fun x y H Q => ∃ i j, x = .str i ∧ y = .str j ∧ Q (.bl (if neg then !(!(Builtin.Str.occurrences j i 0 j.length 1).isEmpty) else !(Builtin.Str.occurrences j i 0 j.length 1).isEmpty)) H)) (o2 : OpR X (compareOp op) (rIn X.K neg)) : PDO X S (compareOp op) (opIn neg) := by
  refine ⟨_, or_op o1 o2, fun c μ x y d1 d2 d Q I r1 r2 e k => ?_⟩
  have seq : (match seqOf μ d2 with | some l => if (flatD d1 && l.all flatD) = true then some (D.bl (if neg then !inD d1 l else inD d1 l)) else none | none => none) = some d → rIn X.K neg x y c.H Q := fun e => by
    cases es : seqOf μ d2 with
    | none => rw [es] at e; cases e
    | some l =>
      rw [es] at e
      obtain ⟨p, xs, rfl, h1, h2⟩ := seq_at I r2 es
      dsimp only at e
      by_cases h : (flatD d1 && l.all flatD) = true
      · rw [if_pos h] at e
        obtain rfl := Option.some.inj e
        have h := Bool.and_eq_true_iff.mp h
        refine ⟨p, xs, rfl, by rw [hK]; exact h1, flat_at r1 h.1, flats_at h2 h.2, ?_⟩
        rw [inV_at r1 h.1 h2 h.2]
        exact k _ c I.step I (rep_bl.mpr rfl)
      · rw [if_neg h] at e; cases e
  cases d1 with
  | str i =>
    cases d2 with
    | str j =>
      obtain rfl := Option.some.inj e
      exact .inl ⟨i, j, (rep_str.mp r1).1, (rep_str.mp r2).1, k _ c I.step I (rep_bl.mpr rfl)⟩
    | _ => exact .inr (seq e)
  | _ => exact .inr (seq e)
theorem po_notIn (hK : X.K = S.K) : PDO X S (compareOp .NotIn) (opIn true) := po_inG hK op_notin_str op_notIn_seq
/-! ### more methods of texts -/
/-! ### str(x) of an int, a text, None -/
end
end DL
namespace DL
open PySem PySem.Spec PyProof.Rows L2
section
variable {X : Cx} {S : Sx} {W : WX} {a b e : Expr} {body : List Stmt} {da db d : DE} {ds : DA} {pos p : Pos} {sb : DS}
/-- a try whose body raises nothing -/
def sTryN (b : DS) : DS := fun env μ => match b env μ with
  | .ex _ _ _ _ _ => .stuck
  | o => o
/-- a statement that is not come to -/
def sNever : DS := fun _ _ => .stuck
/-! ### str(x) of an int, a text -/
def bStr2 (_ : List M) : List D → Option D
  | [.int i] => if i.natAbs.log2 < 1920 then some (.str (toString i)) else none
  | [.str z] => some (.str z)
  | [.non] => some (.str "None")
  | _ => none
theorem pb_str2 : PDB X S (.type "str") bStr2 := by
  refine ⟨fun xs H Q => (∃ i, xs = [.int i] ∧ i.natAbs.log2 < 1920 ∧ Q (.str (toString i)) H) ∨ (∃ a, xs = [.str a] ∧ Q (.str a) H) ∨ (xs = [.non] ∧ Q (.str "None") H), ?_, fun c μ xs l d Q I r e k => ?_⟩
  · intro pins s σ H xs us Q I r h
    rcases h with h | h | ⟨rfl, q⟩
    · exact call_str_int pins s σ H xs us Q I r h
    · exact SkE.call_str_str pins s σ H xs us Q I r h
    · obtain ⟨u, rfl, r1⟩ := vals1 r
      cases r1
      exact PySem.P.str_of_none ⟨.str _, H, I.tok _, ⟨_, rfl⟩, q⟩
  · cases l with
    | nil => cases e
    | cons y l =>
      cases l with
      | cons _ _ => cases y <;> cases e
      | nil =>
        obtain ⟨v, r0, rfl, r1, r2⟩ := r.uncons
        rw [r2.eq_nil]
        cases y with
        | int i =>
          have e : (if i.natAbs.log2 < 1920 then some (D.str (toString i)) else none) = some d := e
          by_cases h : i.natAbs.log2 < 1920
          · rw [if_pos h] at e
            obtain rfl := Option.some.inj e
            exact .inl ⟨i, by rw [rep_int.mp r1], h, k _ c I.step I (rep_str.mpr ⟨rfl, okS_of _⟩)⟩
          · rw [if_neg h] at e; cases e
        | str z =>
          obtain rfl := Option.some.inj (show some (D.str z) = some d from e)
          obtain ⟨rfl, hz⟩ := rep_str.mp r1
          exact .inr (.inl ⟨z, rfl, k _ c I.step I (rep_str.mpr ⟨rfl, hz⟩)⟩)
        | non =>
          obtain rfl := Option.some.inj (show some (D.str "None") = some d from e)
          exact .inr (.inr ⟨by rw [rep_non.mp r1], k _ c I.step I (rep_str.mpr ⟨rfl, okS_of _⟩)⟩)
        | _ => cases e
end
end DL
namespace DL
open PySem PySem.Spec PyProof.Rows L2
/-! ### decidable readings of what a class needs -/
theorem all_nil {P : Str → Prop} : ∀ x ∈ ([] : List Str), P x := fun _ h => nomatch h
theorem all_cons {P : Str → Prop} {c : Str} {cs : List Str} (h : P c) (t : ∀ x ∈ cs, P x) : ∀ x ∈ c :: cs, P x := fun x m => (List.mem_cons.mp m).elim (fun e => by rw [e]; exact h) (t x)
theorem mkF_of {S : Sx} {c : Str} {f : Addr} (h : c ∈ S.cls) (m : Mk S.K (S.A c) f) : MkF S c f := ⟨m, h⟩
theorem mtF_of {S : Sx} {c m : Str} {f : Addr} (hc : Cls S.K (S.A c)) (hm : Meth S.K (S.A c) m f) : MtF S c m f := ⟨hc, hm⟩
section
variable {X : Cx} {S : Sx} {W : WX} {a b e : Expr} {da db d : DE} {pos p : Pos}
/-! ### xs[::-1] of a list or a text -/
def revA (μ : List M) : D → Option D
  | .str z => if z.length ≤ 100000 then some (.str (revS z)) else none
  | x => (lstOf μ x).map fun l => .lst l.reverse
def dRevA (da : DE) : DE := fun env μ => (da env μ).bind fun x μ1 => match revA μ1 x with
  | some d => .ok d μ1
  | none => .stuck
end
end DL
namespace DL
open PySem PySem.Spec PyProof.Rows L2
/-! ### readings of the further denotations -/
section
variable {α β : Type} {X : XP} {N : En → List M → Prop} {R : D → List M → Prop} {B C : En → List M → Prop} {Z : Str → List Str → List D → En → List M → Prop} {ks : Ks N R B C Z} {env : En} {μ : List M} {Q : D → List M → Prop} {k : Kt Q X}
theorem wo_cong {Q Q' : α → List M → Prop} {k : Kt Q X} {k' : Kt Q' X} {o : Out α} (h : ∀ x m, Q x m = Q' x m) : WO o Q X k = WO o Q' X k' := by
  cases o with
  | ok a m => exact h a m
  | ex _ _ _ _ => rfl
  | stuck => rfl
theorem w_dct0 : WO (dDct0 env μ) Q X k = Q (.dct [] []) μ := id rfl
/-! o.m(..) -/
def isC (c m : Str) (μ : List M) (x : D) : Prop := clsAt μ x = some c ∧ (fldAt μ m x).isNone = true
theorem w_meth {c m : Str} {np : Nat} {G : GF} {dd : List D} {da : DE} {ds : DA} : WO (dMeth c m np G dd da ds env μ) Q X k = WO (da env μ) (fun x m1 => isC c m m1 x ∧ WO (ds env m1) (fun l m2 => (x :: (l ++ dd)).length = np ∧ WO (G (x :: (l ++ dd)) m2) Q X ⟨⟩) X ⟨⟩) X ⟨⟩ := by
  unfold dMeth
  rw [w_bind]
  refine wo_cong fun x m1 => ?_
  by_cases h : clsAt m1 x = some c ∧ (fldAt m1 m x).isNone = true
  · rw [if_pos h, w_bind]
    refine Eq.trans (wo_cong (Q' := fun l m2 => (x :: (l ++ dd)).length = np ∧ WO (G (x :: (l ++ dd)) m2) Q X ⟨⟩) fun l m2 => ?_) (propext ⟨fun q => ⟨h, q⟩, fun q => q.2⟩)
    by_cases hl : (x :: (l ++ dd)).length = np
    · rw [if_pos hl]; exact propext ⟨fun q => ⟨hl, q⟩, fun q => q.2⟩
    · rw [if_neg hl]; exact propext ⟨fun q => q.elim, fun q => absurd q.1 hl⟩
  · rw [if_neg h]
    exact propext ⟨fun q => q.elim, fun q => absurd q.1 h⟩
theorem isC_obj {c m : Str} {ns : List Str} {l : List D} : isC c m μ (.obj c ns l) = ((fldOf m ns l).isNone = true) := propext ⟨fun h => h.2, fun h => ⟨rfl, h⟩⟩
/-! C(..) -/
def makeD (c : Str) (np : Nat) (G : GF) (l : List D) (μ1 : List M) : Out D := if l.length + 1 = np then match G (.cel μ1.length :: l) (μ1 ++ [.obj c [] []]) with
    | .ok .non μ2 => match finD μ1.length μ2 (.cel μ1.length) with
      | some (d, μ3) => .ok d μ3
      | none => .stuck
    | .ok _ _ => .stuck
    | .ex x ns l' μ2 => match finL μ1.length μ2 l' with
      | some (l2, μ3) => .ex x ns l2 μ3
      | none => .stuck
    | .stuck => .stuck
  else .stuck
theorem w_make {c : Str} {np : Nat} {G : GF} {dd : List D} {ds : DA} : WO (dMake c np G dd ds env μ) Q X k = WO (ds env μ) (fun l m => WO (makeD c np G (l ++ dd) m) Q X ⟨⟩) X ⟨⟩ := w_bind
theorem w_pick {n m : Nat} {idx : List Nat} {dd : List D} {ds dk : DA} {Q : List D → List M → Prop} {k : Kt Q X} : WO (aPick n m idx dd ds dk env μ) Q X k = WO (ds env μ) (fun l m1 => WO (dk env m1) (fun z m2 => (l.length = n ∧ z.length = m) ∧ Q (pick idx (l ++ (z ++ dd))) m2) X ⟨⟩) X ⟨⟩ := by
  unfold aPick
  rw [w_bind]
  refine wo_cong fun l m1 => ?_
  rw [w_bind]
  refine wo_cong fun z m2 => ?_
  by_cases h : l.length = n ∧ z.length = m
  · rw [if_pos h]; exact propext ⟨fun q => ⟨h, q⟩, fun q => q.2⟩
  · rw [if_neg h]; exact propext ⟨fun q => q.elim, fun q => absurd q.1 h⟩
theorem pick_cons {α : Type} {i : Nat} {is : List Nat} {xs : List α} : pick (i :: is) xs = match xs[i]? with | some x => x :: pick is xs | none => pick is xs := by
  unfold pick
  rw [List.filterMap_cons]
  cases xs[i]? <;> rfl
theorem pick_nil {α : Type} {xs : List α} : pick [] xs = [] := id rfl
/-! x == y, x != y of an own class -/
theorem w_own {c : Str} {G : GF} {da db : DE} : WO (dOwn c G da db env μ) Q X k = WO (da env μ) (fun x m1 => WO (db env m1) (fun y m2 => (clsAt m2 x = some c ∧ (tagOf m2 y).isSome = true) ∧ WO (G [x, y] m2) (fun r m3 => OP (isB r) (fun b => Q (.bl b) m3) ⟨⟩) X ⟨⟩) X ⟨⟩) X ⟨⟩ := by
  unfold dOwn
  rw [w_bind]
  refine wo_cong fun x m1 => ?_
  rw [w_bind]
  refine wo_cong fun y m2 => ?_
  by_cases h : clsAt m2 x = some c ∧ (tagOf m2 y).isSome = true
  · rw [if_pos h, w_bind]
    refine Eq.trans (wo_cong (Q' := fun r m3 => OP (isB r) (fun b => Q (.bl b) m3) ⟨⟩) fun r m3 => ?_) (propext ⟨fun q => ⟨h, q⟩, fun q => q.2⟩)
    cases r <;> rfl
  · rw [if_neg h]; exact propext ⟨fun q => q.elim, fun q => absurd q.1 h⟩
theorem w_ne {c : Str} {G : GF} {da db : DE} : WO (dNe c G da db env μ) Q X k = WO (da env μ) (fun x m1 => WO (db env m1) (fun y m2 => (clsAt m2 x = some c ∧ (tagOf m2 y).isSome = true) ∧ WO (G [x, y] m2) (fun r m3 => OP (isB r) (fun b => Q (.bl (!b)) m3) ⟨⟩) X ⟨⟩) X ⟨⟩) X ⟨⟩ := by
  unfold dNe
  rw [w_bind]
  refine wo_cong fun x m1 => ?_
  rw [w_bind]
  refine wo_cong fun y m2 => ?_
  by_cases h : clsAt m2 x = some c ∧ (tagOf m2 y).isSome = true
  · rw [if_pos h, w_bind]
    refine Eq.trans (wo_cong (Q' := fun r m3 => OP (isB r) (fun b => Q (.bl (!b)) m3) ⟨⟩) fun r m3 => ?_) (propext ⟨fun q => ⟨h, q⟩, fun q => q.2⟩)
    cases r <;> rfl
  · rw [if_neg h]; exact propext ⟨fun q => q.elim, fun q => absurd q.1 h⟩
/-! str(x), repr(x), f'{x}' -/
theorem w_obS {c : Str} {G : GF} {da : DE} : WO (dObS c G da env μ) Q X k = WO (da env μ) (fun x m1 => clsAt m1 x = some c ∧ WO (G [x] m1) (fun r m3 => OP (isS r) (fun z => Q (.str z) m3) ⟨⟩) X ⟨⟩) X ⟨⟩ := by
  unfold dObS
  rw [w_bind]
  refine wo_cong fun x m1 => ?_
  by_cases h : clsAt m1 x = some c
  · rw [if_pos h, w_bind]
    refine Eq.trans (wo_cong (Q' := fun r m3 => OP (isS r) (fun z => Q (.str z) m3) ⟨⟩) fun r m3 => ?_) (propext ⟨fun q => ⟨h, q⟩, fun q => q.2⟩)
    cases r <;> rfl
  · rw [if_neg h]; exact propext ⟨fun q => q.elim, fun q => absurd q.1 h⟩
theorem cls_obj {c : Str} {ns : List Str} {l : List D} : clsAt μ (.obj c ns l) = some c := id rfl
theorem fld_obj {c f : Str} {ns : List Str} {l : List D} : fldAt μ f (.obj c ns l) = fldOf f ns l := id rfl
theorem w_fmt {da : DE} : WO (dFmt da env μ) Q X k = WO (da env μ) (fun x m1 => OP (fmtS x) (fun z => Q (.str z) m1) ⟨⟩) X ⟨⟩ := by
  unfold dFmt
  rw [w_bind]
  refine wo_cong fun x m1 => ?_
  cases fmtS x <;> rfl
theorem w_fs {ds : List DE} : WO (dFs ds env μ) Q X k = WO (fsGo ds Str.empty env μ) Q X ⟨⟩ := id rfl
theorem w_fsNil {acc : Str} : WO (fsGo [] acc env μ) Q X k = Q (.str acc) μ := id rfl
theorem w_fsCons {d : DE} {ds : List DE} {acc : Str} : WO (fsGo (d :: ds) acc env μ) Q X k = WO (d env μ) (fun x m1 => OP (isS x) (fun y => (acc ++ y).length ≤ 100000 ∧ WO (fsGo ds (acc ++ y) env m1) Q X ⟨⟩) ⟨⟩) X ⟨⟩ := by
  show WO ((d env μ).bind _) Q X k = _
  rw [w_bind]
  refine wo_cong fun x m1 => ?_
  cases x with
  | str y =>
    show WO (if (acc ++ y).length ≤ 100000 then fsGo ds (acc ++ y) env m1 else .stuck) Q X ⟨⟩ = ((acc ++ y).length ≤ 100000 ∧ WO (fsGo ds (acc ++ y) env m1) Q X ⟨⟩)
    by_cases h : (acc ++ y).length ≤ 100000
    · rw [if_pos h]; exact propext ⟨fun q => ⟨h, q⟩, fun q => q.2⟩
    · rw [if_neg h]; exact propext ⟨fun q => q.elim, fun q => absurd q.1 h⟩
  | _ => rfl
/-! others -/
theorem w_isT {us : List Str} {da : DE} : WO (dIsT us da env μ) Q X k = WO (da env μ) (fun x m1 => OP (tagOf m1 x) (fun t => Q (.bl (isSubs t us)) m1) ⟨⟩) X ⟨⟩ := by
  unfold dIsT
  rw [w_bind]
  refine wo_cong fun x m1 => ?_
  cases tagOf m1 x <;> rfl
theorem w_revA {da : DE} : WO (dRevA da env μ) Q X k = WO (da env μ) (fun x m1 => OP (revA m1 x) (fun d => Q d m1) ⟨⟩) X ⟨⟩ := by
  unfold dRevA
  rw [w_bind]
  refine wo_cong fun x m1 => ?_
  cases revA m1 x <;> rfl
theorem i_any {da : DE} {Q : List D × (List M → Prop) → List M → Prop} {k : Kt Q X} : WO (iAny da env μ) Q X k = WO (da env μ) (fun x m1 => OP (itAny m1 x) (fun r => Q r m1) ⟨⟩) X ⟨⟩ := by
  unfold iAny
  rw [w_bind]
  refine wo_cong fun x m1 => ?_
  cases itAny m1 x <;> rfl
theorem ia_tup {l : List D} : itAny μ (.tup l) = some (l, fun _ => True) := id rfl
theorem ia_str {z : Str} : itAny μ (.str z) = some (signs z, fun _ => True) := id rfl
theorem ia_lst {l : List D} : itAny μ (.lst l) = some (l, fun _ => True) := by
  have e : (fun μ2 : List M => seqOf μ2 (.lst l) = some l) = fun _ => True := funext fun _ => eq_true rfl
  show (some (l, fun μ2 : List M => seqOf μ2 (.lst l) = some l) : Option (List D × (List M → Prop))) = _
  rw [e]
theorem ia_scr {ns : List Int} : itAny μ (.scr ns) = some (ns.map D.int, fun _ => True) := by
  have e : (fun μ2 : List M => seqOf μ2 (.scr ns) = some (ns.map D.int)) = fun _ => True := funext fun _ => eq_true rfl
  show (some (ns.map D.int, fun μ2 : List M => seqOf μ2 (.scr ns) = some (ns.map D.int)) : Option (List D × (List M → Prop))) = _
  rw [e]
theorem ia_cel {i : Nat} : itAny μ (.cel i) = (cellL μ[i]?).map fun l => (l, fun μ2 => cellL μ2[i]? = some l) := by
  show (match seqOf μ (.cel i) with | some l => some (l, fun μ2 => seqOf μ2 (.cel i) = some l) | none => none) = _
  rw [c_seq]
  cases cellL μ[i]? with
  | none => rfl
  | some l =>
    show some (l, fun μ2 : List M => seqOf μ2 (.cel i) = some l) = some (l, fun μ2 => cellL μ2[i]? = some l)
    have e2 : (fun μ2 : List M => seqOf μ2 (.cel i) = some l) = fun μ2 => cellL μ2[i]? = some l := funext fun μ2 => by rw [c_seq]
    rw [e2]
theorem w_m0 {g : List M → Str → List D → Option D} {a : DE} : WO (dM0 g a env μ) Q X k = WO (a env μ) (fun x m => OP (isS x) (fun z => OP (g m z []) (fun d => Q d m) ⟨⟩) ⟨⟩) X ⟨⟩ := by
  unfold dM0
  rw [w_bind]
  refine wo_cong fun x m => ?_
  cases x with
  | str z =>
    show WO (match g m z [] with | some d => .ok d m | none => .stuck) Q X ⟨⟩ = OP (g m z []) _ ⟨⟩
    cases g m z [] <;> rfl
  | _ => rfl
def gloOf : Option (Option D) → Option Str
  | some (some (.glo y)) => some y
  | _ => none
theorem gl_glo {y : Str} : gloOf (some (some (.glo y))) = some y := id rfl
def candOf (y : Str) : List (Str × Nat × GF) → Option (Nat × GF)
  | [] => none
  | (x, np, G) :: cs => if y = x then some (np, G) else candOf y cs
theorem w_callA {i : Nat} {ds : DA} {cs : List (Str × Nat × GF)} : WO (dCallA i ds cs env μ) Q X k = OP ((gloOf env[i]?).bind fun y => candOf y cs) (fun c => WO (ds env μ) (fun l m => l.length = c.1 ∧ WO (c.2 l m) Q X ⟨⟩) X ⟨⟩) ⟨⟩ := by
  induction cs with
  | nil => cases gloOf env[i]? <;> rfl
  | cons c cs ih =>
    obtain ⟨x, np, G⟩ := c
    show WO (match env[i]?.join with | some (.glo y) => if y = x then (ds env μ).bind fun l μ1 => if l.length = np then G l μ1 else .stuck else dCallA i ds cs env μ | _ => .stuck) Q X k = _
    cases e : env[i]? with
    | none => rfl
    | some o =>
      cases o with
      | none => rfl
      | some d =>
        rw [e] at ih
        cases d with
        | glo y =>
          show WO (if y = x then (ds env μ).bind fun l μ1 => if l.length = np then G l μ1 else .stuck else dCallA i ds cs env μ) Q X k = OP (if y = x then some (np, G) else candOf y cs) _ ⟨⟩
          by_cases h : y = x
          · rw [if_pos h, if_pos h, w_bind]
            show WO (ds env μ) _ X ⟨⟩ = WO (ds env μ) _ X ⟨⟩
            refine wo_cong fun l m => ?_
            by_cases hl : l.length = np
            · rw [if_pos hl]; exact propext ⟨fun q => ⟨hl, q⟩, fun q => q.2⟩
            · rw [if_neg hl]; exact propext ⟨fun q => q.elim, fun q => absurd q.1 hl⟩
          · rw [if_neg h, if_neg h]
            exact ih
        | _ => rfl
/-! statements -/
theorem s_tryN {b : DS} : WS (sTryN b env μ) N R B C Z ks = WS (b env μ) N R B C (fun _ _ _ _ _ => False) ⟨⟩ := by
  unfold sTryN
  cases b env μ <;> rfl
theorem s_never : WS (sNever env μ) N R B C Z ks = False := id rfl
def celO (m : List M) : D → Option (Nat × Str × List Str × List D)
  | .cel i => match m[i]? with
    | some (.obj c ns l) => some (i, c, ns, l)
    | _ => none
  | _ => none
theorem co_cel {i : Nat} {c : Str} {ns : List Str} {l : List D} (h : μ[i]? = some (.obj c ns l)) : celO μ (.cel i) = some (i, c, ns, l) := by
  show (match μ[i]? with | some (.obj c ns l) => some (i, c, ns, l) | _ => none) = _
  rw [h]
theorem s_fld {f : Str} {da de : DE} : WS (sFldSet f da de env μ) N R B C Z ks = WO (de env μ) (fun y m1 => WO (da env m1) (fun x m2 => OP (celO m2 x) (fun o => o.2.2.1.length < 1000 ∧ N env (m2.set o.1 (.obj o.2.1 (putD f y o.2.2.1 o.2.2.2).1 (putD f y o.2.2.1 o.2.2.2).2))) ⟨⟩) (fun c ns l m => Z c ns l env m) ⟨⟩) (fun c ns l m => Z c ns l env m) ⟨⟩ := by
  unfold sFldSet
  rw [w_bindS]
  refine wo_cong fun y m1 => ?_
  rw [w_bindS]
  refine wo_cong fun x m2 => ?_
  cases x with
  | cel i =>
    show WS (match m2[i]? with | some (.obj c ns l) => (if ns.length < 1000 then .nx env (m2.set i (.obj c (putD f y ns l).1 (putD f y ns l).2)) else .stuck) | _ => .stuck) N R B C Z ⟨⟩ = OP (match m2[i]? with | some (.obj c ns l) => some (i, c, ns, l) | _ => none) _ ⟨⟩
    cases m2[i]? with
    | none => rfl
    | some o =>
      cases o with
      | obj c ns l =>
        show WS (if ns.length < 1000 then _ else _) N R B C Z ⟨⟩ = (ns.length < 1000 ∧ _)
        by_cases h : ns.length < 1000
        · rw [if_pos h]; exact propext ⟨fun q => ⟨h, q⟩, fun q => q.2⟩
        · rw [if_neg h]; exact propext ⟨fun q => q.elim, fun q => absurd q.1 h⟩
      | _ => rfl
  | _ => rfl
theorem w_listN {ds : DA} {Q : List D → List M → Prop} {k : Kt Q X} : WO (dListN ds env μ) Q X k = WO (ds env μ) (fun l m => OP (match l with | [x] => seqOf m x | _ => none) (fun l' => Q l' m) ⟨⟩) X ⟨⟩ := by
  unfold dListN
  rw [w_bind]
  refine wo_cong fun l m => ?_
  match l with
  | [] => rfl
  | [x] =>
    show WO (match seqOf m x with | some l => .ok l m | none => .stuck) Q X ⟨⟩ = OP (seqOf m x) _ ⟨⟩
    cases seqOf m x <;> rfl
  | _ :: _ :: _ => rfl
/-! targets -/
theorem g_seq {n : Nat} {gs : List D → En → List M → Option En} {d : D} : gSeq n gs d env μ = (seqOf μ d).bind fun l => if l.length = n then gs l env μ else none := by
  show (match seqOf μ d with | some l => if l.length = n then gs l env μ else none | none => none) = _
  cases seqOf μ d <;> rfl
theorem g_cons {g : DG} {gs : List D → En → List M → Option En} {d : D} {l : List D} : gsCons g gs (d :: l) env μ = (g d env μ).bind fun e => gs l e μ := by
  show (match g d env μ with | some env1 => gs l env1 μ | none => none) = _
  cases g d env μ <;> rfl
theorem g_nil : gsNil [] env μ = some env := id rfl
theorem g_nm {i : Nat} {d : D} : gNm i d env μ = some (env.set i (some d)) := id rfl
/-! what a def comes to, said by an equation -/
theorem eq_ok {o : Out D} {d : D} {m : List M} (h : WO o (fun x m' => x = d ∧ m' = m) xNo ⟨⟩) : o = .ok d m := by
  obtain ⟨x, m', e, rfl, rfl⟩ := h.ex_
  exact e
theorem eq_ex {o : Out D} {c : Str} {ns : List Str} {l : List D} {m : List M} (h : WO o (fun _ _ => False) (fun c' ns' l' m' => c' = c ∧ ns' = ns ∧ l' = l ∧ m' = m) ⟨⟩) : o = .ex c ns l m := by
  cases o with
  | ok a m' => exact False.elim h
  | ex c' ns' l' m' =>
    obtain ⟨rfl, rfl, rfl, rfl⟩ := h
    rfl
  | stuck => exact False.elim h
end
end DL
namespace DL
open PySem PySem.Spec PyProof.Rows L2
section
variable {X : XP} {N : En → List M → Prop} {R : D → List M → Prop} {B C : En → List M → Prop} {Z : Str → List Str → List D → En → List M → Prop} {ks : Ks N R B C Z} {env : En} {m : List M} {g : List M → Prop} {tg : DG} {body : DS} {tt : DT} {el : DE}
/-- a comprehension whose parts change nothing -/
theorem lc_pure {env0 : En} (t : D → Bool) (f : D → D) (hg : g m) : ∀ (l acc : List D), (∀ x ∈ l, ∃ e1, tg x env0 m = some e1 ∧ tt e1 m = .ok (t x) m ∧ (t x = true → el e1 m = .ok (f x) m)) → acc.length + l.length ≤ 100000 →
    lcGo g tg tt el env0 l m acc = .ok (acc ++ (l.filter t).map f) m
  | [], acc, _, _ => by
    rw [lcGo, guard_of hg, if_pos rfl, List.filter_nil, List.map_nil, List.append_nil]
  | x :: xs, acc, h, hl => by
    obtain ⟨e1, h1, h2, h3⟩ := h x List.mem_cons_self
    rw [List.length_cons] at hl
    rw [lcGo, guard_of hg, if_pos rfl, h1]
    dsimp only
    rw [h2]
    dsimp only
    cases ht : t x with
    | true =>
      rw [if_pos rfl, h3 ht]
      dsimp only
      rw [if_pos (by omega), lc_pure t f hg xs (acc ++ [f x]) (fun y hy => h y (List.mem_cons_of_mem _ hy)) (by rw [List.length_append]; show acc.length + 1 + _ ≤ _; omega), List.filter_cons, ht, if_pos rfl, List.map_cons, List.append_assoc]
      rfl
    | false =>
      rw [if_neg Bool.false_ne_true, lc_pure t f hg xs acc (fun y hy => h y (List.mem_cons_of_mem _ hy)) (by omega), List.filter_cons, ht, if_neg Bool.false_ne_true]
theorem lc_map {env0 : En} (f : D → D) (hg : g m) (l : List D) (h : ∀ x ∈ l, ∃ e1, tg x env0 m = some e1 ∧ el e1 m = .ok (f x) m) (hl : l.length ≤ 100000) :
    lcGo g tg tYes' el env0 l m [] = .ok (l.map f) m := by
  rw [lc_pure (fun _ => true) f hg l [] (fun x hx => by
    obtain ⟨e1, h1, h2⟩ := h x hx
    exact ⟨e1, h1, rfl, fun _ => h2⟩) (by show 0 + l.length ≤ _; omega), List.nil_append]
  congr 2
  exact List.filter_eq_self.mpr fun _ _ => rfl
theorem t_yes {Q : Bool → List M → Prop} {k : Kt Q X} : WO (tYes' env m) Q X k = Q true m := id rfl
theorem wipe_cons {v : Nat} {vs : List Nat} : wipeE env (v :: vs) = (wipeE env vs).set v none := id rfl
theorem wipe_nil : wipeE env [] = env := id rfl
end
/-! ### a making, by what __init__ comes to -/
theorem makeD_ok {c : Str} {np : Nat} {G : GF} {l : List D} {m : List M} {ns : List Str} {fs : List D} (hc : Cln m) (hn : l.length + 1 = np) (hf : cleans 0 fs = true) (h : G (.cel m.length :: l) (m ++ [M.obj c [] []]) = .ok .non (m ++ [M.obj c ns fs])) : makeD c np G l m = .ok (.obj c ns fs) m := by
  have e1 : (m ++ [M.obj c ns fs]).take m.length = m := List.take_left
  have e2 : subMs m.length (rsv m.length (m ++ [M.obj c ns fs]) 20) m = some m := subMs_clean m (by
    have := hc.all (n := m.length) (k := m.length)
    rwa [List.take_length] at this)
  have e3 : sub m.length (rsv m.length (m ++ [M.obj c ns fs]) 20) (.cel m.length) = some (.obj c ns fs) := by
    show (if m.length < m.length then some (D.cel m.length) else rsv m.length (m ++ [M.obj c ns fs]) 20 m.length) = _
    rw [if_neg (Nat.lt_irrefl _)]
    show rsv m.length (m ++ [M.obj c ns fs]) (19 + 1) m.length = _
    unfold rsv
    rw [List.getElem?_concat_length]
    show (subs m.length (rsv m.length (m ++ [M.obj c ns fs]) 19) fs).map (D.obj c ns) = _
    rw [subs_clean fs (cleans_up fs hf)]
    rfl
  unfold makeD
  rw [if_pos hn, h]
  show (match finD m.length (m ++ [M.obj c ns fs]) (.cel m.length) with | some (d, μ3) => Out.ok d μ3 | none => .stuck) = _
  unfold finD
  rw [e3, e1, e2]
theorem makeD_ex {c x : Str} {np : Nat} {G : GF} {l : List D} {m : List M} (hc : Cln m) (hn : l.length + 1 = np) (h : G (.cel m.length :: l) (m ++ [M.obj c [] []]) = .ex x [] [] (m ++ [M.obj c [] []])) : makeD c np G l m = .ex x [] [] m := by
  have e1 : (m ++ [M.obj c [] []]).take m.length = m := List.take_left
  have e2 : subMs m.length (rsv m.length (m ++ [M.obj c [] []]) 20) m = some m := subMs_clean m (by
    have := hc.all (n := m.length) (k := m.length)
    rwa [List.take_length] at this)
  unfold makeD
  rw [if_pos hn, h]
  show (match finL m.length (m ++ [M.obj c [] []]) [] with | some (l2, μ3) => Out.ex x [] l2 μ3 | none => .stuck) = _
  unfold finL
  rw [show subs m.length (rsv m.length (m ++ [M.obj c [] []]) 20) [] = some [] from rfl, e1, e2]
/-! ### plain data: equality, cleanliness, by parts -/
section
variable {m : List M} {i j : Int} {x y : Str} {b c : Bool} {l l' : List D} {d e : D} {n : Nat}
theorem nn_non : isNn .non = true := id rfl
theorem nn_int : isNn (.int i) = false := id rfl
theorem nn_str : isNn (.str x) = false := id rfl
theorem nn_bl : isNn (.bl b) = false := id rfl
theorem nn_tup : isNn (.tup l) = false := id rfl
theorem nn_lst : isNn (.lst l) = false := id rfl
end
end DL
namespace DL
open PySem PySem.Spec PyProof.Rows L2
end DL
namespace DL
open PySem PySem.Spec PyProof.Rows L2
end DL
namespace DL
open PySem PySem.Spec PyProof.Rows L2
end DL
/-! ### where a token is out: x.replace(y, z) -/
namespace DL
open PySem PySem.Spec PyProof.Rows L2
end DL
/-! ### list * int -/
namespace DL
open PySem PySem.Spec PyProof.Rows L2
end DL
set_option maxHeartbeats 1000000
/-! ### a comprehension while an exception is handled -/
namespace L2P
open PySem PySem.Spec PyProof.Rows L2 L2H HotX
end L2P
set_option maxHeartbeats 1000000
/-! ### a def that is called while an exception is handled; what it promises may speak of that exception -/
namespace L2P
open PySem PySem.Spec PyProof.Rows L2 L2H HotX
end L2P
namespace DL
open PySem PySem.Spec PyProof.Rows L2 L2P L2H
/-! ### data while an exception is pinned -/
abbrev Sx.pin (S : Sx) (q : Addr × Obj) : Sx := ⟨S.K, S.A, S.n0, q :: S.pn, S.cls⟩
mutual
def noX : D → Bool
  | .tup l => noXs l | .lst l => noXs l | .dct _ l => noXs l | .obj _ _ l => noXs l
  | .exc _ _ _ => false
  | _ => true
def noXs : List D → Bool
  | [] => true
  | d :: l => noX d && noXs l
end
section
variable {S : Sx} {q : Addr × Obj} {io : List Addr} {F : Hp}
mutual
theorem rep_pin : ∀ (d : D) {v : V}, rep S io F d v → rep (S.pin q) io F d v
  | .tup l, v, h => by unfold rep at h ⊢; obtain ⟨a, xs, h1, h2, h3⟩ := h; exact ⟨a, xs, h1, h2, reps_pin l h3⟩
  | .lst l, v, h => by unfold rep at h ⊢; obtain ⟨a, xs, h1, h2, h3⟩ := h; exact ⟨a, xs, h1, h2, reps_pin l h3⟩
  | .dct ks l, v, h => by unfold rep at h ⊢; obtain ⟨a, xs, h1, h2, h3, h4⟩ := h; exact ⟨a, xs, h1, h2, h3, reps_pin l h4⟩
  | .obj c ns l, v, h => by unfold rep at h ⊢; obtain ⟨a, dx, xs, h1, h2, h3, h4, h5⟩ := h; exact ⟨a, dx, xs, h1, h2, h3, reps_pin l h4, h5⟩
  | .exc c ns l, v, h => by
    unfold rep at h ⊢
    obtain ⟨a, oe, d, h1, h2, h3, h4, h5⟩ := h
    exact ⟨a, oe, d, h1, List.mem_cons_of_mem _ h2, h3, h4, h5.imp id fun ⟨dd, fs, k1, k2, k3, k4⟩ => ⟨dd, fs, k1, k2, k3, reps_pin l k4⟩⟩
  | .non, v, h => by unfold rep at h ⊢; exact h
  | .txt, v, h => by unfold rep at h ⊢; exact h
  | .bl _, v, h => by unfold rep at h ⊢; exact h
  | .int _, v, h => by unfold rep at h ⊢; exact h
  | .str _, v, h => by unfold rep at h ⊢; exact h
  | .ty _, v, h => by unfold rep at h ⊢; exact h
  | .glo _, v, h => by unfold rep at h ⊢; exact h
  | .scr _, v, h => by unfold rep at h ⊢; exact h
  | .cel _, v, h => by unfold rep at h ⊢; exact h
theorem reps_pin : ∀ (l : List D) {xs : List V}, reps S io F l xs → reps (S.pin q) io F l xs
  | [], xs, h => by unfold reps at h ⊢; exact h
  | d :: l, xs, h => by
    unfold reps at h ⊢
    obtain ⟨x, r, h1, h2, h3⟩ := h
    exact ⟨x, r, h1, rep_pin d h2, reps_pin l h3⟩
end
mutual
theorem rep_unpin : ∀ (d : D) {v : V}, noX d = true → rep (S.pin q) io F d v → rep S io F d v
  | .tup l, v, n, h => by unfold noX at n; unfold rep at h ⊢; obtain ⟨a, xs, h1, h2, h3⟩ := h; exact ⟨a, xs, h1, h2, reps_unpin l n h3⟩
  | .lst l, v, n, h => by unfold noX at n; unfold rep at h ⊢; obtain ⟨a, xs, h1, h2, h3⟩ := h; exact ⟨a, xs, h1, h2, reps_unpin l n h3⟩
  | .dct ks l, v, n, h => by unfold noX at n; unfold rep at h ⊢; obtain ⟨a, xs, h1, h2, h3, h4⟩ := h; exact ⟨a, xs, h1, h2, h3, reps_unpin l n h4⟩
  | .obj c ns l, v, n, h => by unfold noX at n; unfold rep at h ⊢; obtain ⟨a, dx, xs, h1, h2, h3, h4, h5⟩ := h; exact ⟨a, dx, xs, h1, h2, h3, reps_unpin l n h4, h5⟩
  | .exc c ns l, v, n, h => by unfold noX at n; cases n
  | .non, v, n, h => by unfold rep at h ⊢; exact h
  | .txt, v, n, h => by unfold rep at h ⊢; exact h
  | .bl _, v, n, h => by unfold rep at h ⊢; exact h
  | .int _, v, n, h => by unfold rep at h ⊢; exact h
  | .str _, v, n, h => by unfold rep at h ⊢; exact h
  | .ty _, v, n, h => by unfold rep at h ⊢; exact h
  | .glo _, v, n, h => by unfold rep at h ⊢; exact h
  | .scr _, v, n, h => by unfold rep at h ⊢; exact h
  | .cel _, v, n, h => by unfold rep at h ⊢; exact h
theorem reps_unpin : ∀ (l : List D) {xs : List V}, noXs l = true → reps (S.pin q) io F l xs → reps S io F l xs
  | [], xs, n, h => by unfold reps at h ⊢; exact h
  | d :: l, xs, n, h => by
    unfold noXs at n
    have n' := Bool.and_eq_true_iff.mp n
    unfold reps at h ⊢
    obtain ⟨x, r, h1, h2, h3⟩ := h
    exact ⟨x, r, h1, rep_unpin d n'.1 h2, reps_unpin l n'.2 h3⟩
end
def noXM : M → Bool
  | .lst l => noXs l
  | .dct _ l => noXs l
  | .obj _ _ l => noXs l
  | .dead => true
  | .dcT _ l => noXs l
  | .lck _ l => noXs l
def noXO : Option D → Bool
  | some d => noX d
  | none => true
theorem cell_pin {c : Cf} {a : Addr} : ∀ {m : M}, cellOk S c a m → cellOk (S.pin q) c a m
  | .lst l, ⟨h1, xs, h2, h3⟩ => ⟨h1, xs, h2, reps_pin l h3⟩
  | .dct ks l, ⟨h1, xs, h2, h3, h4⟩ => ⟨h1, xs, h2, h3, reps_pin l h4⟩
  | .obj x ns l, ⟨h1, dx, xs, h2, h3, h4⟩ => ⟨h1, dx, xs, h2, h3, reps_pin l h4⟩
  | .dead, h => h
  | .dcT ks l, ⟨h1, xs, h2, h3, h4, h5⟩ => ⟨h1, xs, h2, h3, h4, reps_pin l h5⟩
  | .lck ks l, ⟨od, u, vs, h1, h2, h3, h4⟩ => ⟨od, u, vs, h1, h2, h3, reps_pin l h4⟩
theorem cell_unpin {c : Cf} {a : Addr} : ∀ {m : M}, noXM m = true → cellOk (S.pin q) c a m → cellOk S c a m
  | .lst l, n, ⟨h1, xs, h2, h3⟩ => ⟨h1, xs, h2, reps_unpin l n h3⟩
  | .dct ks l, n, ⟨h1, xs, h2, h3, h4⟩ => ⟨h1, xs, h2, h3, reps_unpin l n h4⟩
  | .obj x ns l, n, ⟨h1, dx, xs, h2, h3, h4⟩ => ⟨h1, dx, xs, h2, h3, reps_unpin l n h4⟩
  | .dead, n, h => h
  | .dcT ks l, n, ⟨h1, xs, h2, h3, h4, h5⟩ => ⟨h1, xs, h2, h3, h4, reps_unpin l n h5⟩
  | .lck ks l, n, ⟨od, u, vs, h1, h2, h3, h4⟩ => ⟨od, u, vs, h1, h2, h3, reps_unpin l n h4⟩
theorem SI.pin {c : Cf} {μ : List M} (h : SI S c μ) : SI (S.pin q) c μ := ⟨h.ex, h.len, h.nd, fun i a m h1 h2 => cell_pin (h.cell i a m h1 h2), h.cls⟩
theorem SI.unpin {c : Cf} {μ : List M} (n : μ.all noXM = true) (h : SI (S.pin q) c μ) : SI S c μ :=
  ⟨h.ex, h.len, h.nd, fun i a m h1 h2 => cell_unpin (List.all_eq_true.mp n m (List.mem_of_getElem? h2)) (h.cell i a m h1 h2), h.cls⟩
theorem EnvOk.pin {c : Cf} {env : En} {σ : St} (h : EnvOk S c env σ) : EnvOk (S.pin q) c env σ := ⟨h.len, fun i d e => by
  obtain ⟨v, h1, h2⟩ := h.at_ i d e
  exact ⟨v, h1, rep_pin d h2⟩⟩
theorem EnvOk.unpin {c : Cf} {env : En} {σ : St} (n : env.all noXO = true) (h : EnvOk (S.pin q) c env σ) : EnvOk S c env σ := ⟨h.len, fun i d e => by
  obtain ⟨v, h1, h2⟩ := h.at_ i d e
  exact ⟨v, h1, rep_unpin d (List.all_eq_true.mp n (some d) (List.mem_of_getElem? e)) h2⟩⟩
theorem Step.pin {c c' : Cf} (s : Step (S.pin q) c c') : Step S c c' := ⟨s.pre, s.nd, s.exF, s.frz, s.keep, s.new, s.som⟩
end
end DL
set_option maxHeartbeats 1000000
/-! ### rules where an exception is handled -/
namespace L2H
open PySem PySem.Spec PyProof.Rows L2
theorem RoomH.units {k : Nat} {A : Around} (r : RoomH k A) : A.units + 64 < cLine := by have := r.un; omega
theorem RoomH.units8 {k : Nat} {A : Around} (r : RoomH k A) : A.units + 80 < cLine := by have := r.un; omega
theorem roomH_mark {k : Nat} {A : Around} {h : Option Value} (r : Room k A) : RoomH k (A.mark h) := ⟨r.dp, r.un⟩
end L2H
namespace DL
open PySem PySem.Spec PyProof.Rows L2 L2P L2H
/-! what an exception is -/
def bIsX (xs : List Str) (u : Ty) (_ : List M) : List D → Option D
  | [.exc x _ _, c] => if clsD c = some u then (if xs.contains x then some (.bl (exSub x u)) else none) else none
  | _ => none
theorem exCB_ok {K : PySem.W.Frag} {D : Addr} (h : exCB K D = true) : ExcC K D := by
  unfold exCB at h
  simp only [Bool.and_eq_true, decide_eq_true_eq] at h
  obtain ⟨h1, h2, h3, h4, h5, h6, h7, h8⟩ := h
  exact ⟨He.eqO_ok h1, He.eqO_ok h2, h3, h4, He.eqO_ok h5, He.eqO_ok h6, h7, h8⟩
/-- the exceptions' classes, for isinstance -/
structure ExcsF (S : Sx) (xs : List Str) (u : Ty) : Prop where
  c : ∀ x ∈ xs, ExcC S.K (S.A x)
  k : ∀ x ∈ xs, PySem.W.kitOne S.K (.ref (S.A x)) (tyv S u) = some (exSub x u)
/-- .. for an except clause -/
def ExmF (S : Sx) (xs : List Str) (u : Str) : Prop := ∀ x ∈ xs, PySem.W.exmOne S.K (.ref (S.A x)) (.ref (S.A u)) = some (exSub x (.inr u))
theorem excsB_ok {S : Sx} {xs : List Str} {u : Ty} (h : excsB S xs u = true) : ExcsF S xs u :=
  ⟨fun x m => exCB_ok (Bool.and_eq_true_iff.mp (List.all_eq_true.mp h x m)).1, fun x m => of_decide_eq_true (Bool.and_eq_true_iff.mp (List.all_eq_true.mp h x m)).2⟩
theorem excsB_at {S : Sx} {xs : List Str} {u : Ty} (h : excsB S xs u = true) (n : Nat) (p : Addr × Obj) : ExcsF ((at0 S n).pin p) xs u := ⟨(excsB_ok h).c, (excsB_ok h).k⟩
theorem exmB_ok {S : Sx} {xs : List Str} {u : Str} (h : exmB S xs u = true) : ExmF S xs u := fun x m => of_decide_eq_true (List.all_eq_true.mp h x m)
/-- a pinned exception of the class D stands at a -/
def PinI (pn : List (Addr × Obj)) (H : Hp) (a D : Addr) : Prop := ∃ (oe : Obj) (d : Option Addr), (a, oe) ∈ pn ∧ Zc (.ref D) d oe ∧ (∃ vs, oe.data = .fields vs) ∧ (d = none ∨ ∃ dd fs, d = some dd ∧ H dd = some (.xd fs))
section
variable {X : Cx}
theorem isi_pinned {pins : List (Addr × Obj)} {σ : L2.St} {H : Hp} {s : Shared} {a D : Addr} (I : Inv X pins σ H s) (h : PinI X.pn H a D) (C : ExcC X.K D) : ∃ P : Heap → Prop, PySem.W.KitX X.K (.ref a) (.ref D) P ∧ P s.heap := by
  obtain ⟨oe, d, hp, hz, ⟨vs, hv⟩, hd⟩ := h
  have G := (I.pin (a, oe) (List.mem_append_left _ hp)).1
  have cl : (PySem.W.clsIn X.K D).isSome = true := by
    obtain ⟨cd, hc, _⟩ := PySem.W.any_some C.hd
    rw [hc]; rfl
  rcases hd with rfl | ⟨dd, fs, rfl, hf⟩
  · exact ⟨_, PySem.W.kitx_exc (ox := oe) (od := none) cl C.hg C.hk C.hs C.ha C.hn C.ht C.hm, ⟨G, hz.1, by unfold PySem.W.notCls; rw [hv] <;> rfl, by rw [hz.2]; trivial⟩⟩
  · have hx : ObjOk X.prog X.w H s.heap dd (.xd fs) := I.hok dd _ hf
    obtain ⟨mA, hns, hr⟩ := hx
    obtain ⟨od, ho, hl⟩ := lookIn_ns hns
    exact ⟨_, PySem.W.kitx_exc (ox := oe) (od := some od) cl C.hg C.hk C.hs C.ha C.hn C.ht C.hm, ⟨G, hz.1, by unfold PySem.W.notCls; rw [hv] <;> rfl, by rw [hz.2]; exact ho⟩⟩
theorem call_isX : CallR X (.builtin "isinstance") (fun xs H Q => ∃ (a D : Addr) (c : V) (cv : Value) (b : Bool), xs = [.ref a, c] ∧ PinI X.pn H a D ∧ ExcC X.K D ∧ ClsV c cv ∧ PySem.W.kitOne X.K (.ref D) cv = some b ∧ Q (.bl b) H) := by
  intro pins s σ H xs us Q I r h
  obtain ⟨a, D, c, cv, b, rfl, hp, C, hc, e, q⟩ := h
  obtain ⟨u1, u2, rfl, r1, r2⟩ := vals2 r
  cases r1
  have ec := hc.eq r2
  subst ec
  obtain ⟨P, Z, z⟩ := isi_pinned I hp C
  exact PySem.W.kia_one Z I.kIn z e (fun z => nomatch z) fun tk => ⟨.bl b, H, I.tok tk, rfl, q⟩
end
def exSubs (x : Str) (us : List Str) : Bool := us.any fun u => exSub x (.inr u)
def dIsXT (xs us : List Str) (da : DE) : DE := fun env μ => (da env μ).bind fun x μ1 => match x with
  | .exc x _ _ => if xs.contains x then .ok (.bl (exSubs x us)) μ1 else .stuck
  | _ => .stuck
section
variable {X : Cx} {S : Sx} {W : WX} {a b e tg : Expr} {es : List Expr} {da db d : DE} {dt : DT} {ds : DA} {pos p tpos : Pos} {k : Nat} {xs : List Str} {u : Ty}
theorem exc_at {c : Cf} {μ : List M} {x : Str} {ns : List Str} {l : List D} {v : V} {pn : List (Addr × Obj)} (hp : ∀ q ∈ S.pn, q ∈ pn) (I : SI S c μ) (r : rep S c.io c.F (.exc x ns l) v) : ∃ a, v = .ref a ∧ PinI pn c.H a (S.A x) := by
  unfold rep at r
  obtain ⟨a, oe, d, h1, h2, h3, h4, h5⟩ := r
  refine ⟨a, h1, oe, d, hp _ h2, h3, h4, ?_⟩
  rcases h5 with ⟨_, _, h⟩ | ⟨dd, fs, h, hf, _, _⟩
  · exact .inl h
  · exact .inr ⟨dd, fs, h, I.ex _ _ hf⟩
theorem PinI.up {pn : List (Addr × Obj)} {H H' : Hp} {a D : Addr} (h : PinI pn H a D) (k : ∀ b o, H b = some o → H' b = some o) : PinI pn H' a D := by
  obtain ⟨oe, d, h1, h2, h3, h4⟩ := h
  exact ⟨oe, d, h1, h2, h3, h4.imp id fun ⟨dd, fs, e, f⟩ => ⟨dd, fs, e, k _ _ f⟩⟩
theorem pb_isX (hK : X.K = S.K) (hp : ∀ q ∈ S.pn, q ∈ X.pn) (hF : ExcsF S xs u) : PDB X S (.builtin "isinstance") (bIsX xs u) := by
  refine ⟨_, call_isX, fun c μ vs l d Q I r e k => ?_⟩
  unfold bIsX at e
  split at e
  · rename_i x ns l' cc
    split at e
    · rename_i hc
      split at e
      · rename_i hx
        obtain rfl := Option.some.inj e
        obtain ⟨v, r0, rfl, r1, r2⟩ := r.uncons
        obtain ⟨v2, r0, rfl, r3, r4⟩ := r2.uncons
        rw [r4.eq_nil]
        obtain ⟨a, rfl, ha⟩ := exc_at hp I r1
        have m : x ∈ xs := List.contains_iff_mem.mp hx
        have cv : ClsV v2 (tyv S u) := by
          cases cc with
          | ty n => cases (show some (Sum.inl n : Ty) = some u from hc); rw [rep_ty.mp r3]; exact .ty n
          | glo y => cases (show some (Sum.inr y : Ty) = some u from hc); rw [rep_glo.mp r3]; exact .own _
          | _ => cases hc
        exact ⟨a, S.A x, v2, tyv S u, exSub x u, rfl, ha, by rw [hK]; exact hF.c x m, cv, by rw [hK]; exact hF.k x m, k _ c I.step I (rep_bl.mpr rfl)⟩
      · cases e
    · cases e
  · cases e
end
end DL
set_option maxHeartbeats 1000000
namespace DL
open PySem PySem.Spec PyProof.Rows L2 L2P L2H
/-! ### calls of a def from a suite; such a def -/
/-! ### try: .. except u as n: .. -/
def endX (i : Nat) : SO → SO
  | .nx e μ => if ((e.set i none).all noXO && μ.all noXM) = true then .nx (e.set i none) μ else .stuck
  | .bk e μ => if ((e.set i none).all noXO && μ.all noXM) = true then .bk (e.set i none) μ else .stuck
  | .ct e μ => if ((e.set i none).all noXO && μ.all noXM) = true then .ct (e.set i none) μ else .stuck
  | .rt d μ => if (noX d && μ.all noXM) = true then .rt d μ else .stuck
  | _ => .stuck
def dTry (xs : List Str) (u : Str) (i : Nat) (body suite : DS) : DS := fun env μ => match body env μ with
  | .ex x ns l e μ1 => if xs.contains x = true then (if exSub x (.inr u) = true then endX i (suite (e.set i (some (.exc x ns l))) μ1) else .ex x ns l e μ1) else .stuck
  | o => o
section
variable {X : Cx} {S : Sx} {W : WX}
theorem endX_run {c : Cf} {E : Ends} {q : Addr × Obj} {i : Nat} : ∀ {o : SO}, SQ S W c E (endX i o) → SQ (S.pin q) wNo c { nx := fun σ' H' => E.nx (σ'.set i none) H', rt := E.rt, bk := fun σ' H' => E.bk (σ'.set i none) H', ct := fun σ' H' => E.ct (σ'.set i none) H' } o
  | .nx e μ, h => fun σ' c' s I en => by
    dsimp only [endX] at h
    by_cases z : ((e.set i none).all noXO && μ.all noXM) = true
    · rw [if_pos z] at h
      obtain ⟨z1, z2⟩ := Bool.and_eq_true_iff.mp z
      exact h _ c' s.pin (I.unpin z2) ((en.del i).unpin z1)
    · rw [if_neg z] at h; exact h.elim
  | .bk e μ, h => fun σ' c' s I en => by
    dsimp only [endX] at h
    by_cases z : ((e.set i none).all noXO && μ.all noXM) = true
    · rw [if_pos z] at h
      obtain ⟨z1, z2⟩ := Bool.and_eq_true_iff.mp z
      exact h _ c' s.pin (I.unpin z2) ((en.del i).unpin z1)
    · rw [if_neg z] at h; exact h.elim
  | .ct e μ, h => fun σ' c' s I en => by
    dsimp only [endX] at h
    by_cases z : ((e.set i none).all noXO && μ.all noXM) = true
    · rw [if_pos z] at h
      obtain ⟨z1, z2⟩ := Bool.and_eq_true_iff.mp z
      exact h _ c' s.pin (I.unpin z2) ((en.del i).unpin z1)
    · rw [if_neg z] at h; exact h.elim
  | .rt d μ, h => fun v c' s I r => by
    dsimp only [endX] at h
    by_cases z : (noX d && μ.all noXM) = true
    · rw [if_pos z] at h
      obtain ⟨z1, z2⟩ := Bool.and_eq_true_iff.mp z
      exact h v c' s.pin (I.unpin z2) (rep_unpin d z1 r)
    · rw [if_neg z] at h; exact h.elim
  | .ex _ _ _ _ _, h => False.elim h
  | .stuck, h => False.elim h
def tSd (S : Sx) (W : WX) (d : DS) : TS := fun E σ H => ∃ env c μ, c.H = H ∧ SI S c μ ∧ EnvOk S c env σ ∧ SQ S W c E (d env μ)
theorem PDSs.psd {st : List Stmt} {d : DS} (h : PDSs X S W st d) : PSs X st (tSd S W d) := by
  obtain ⟨t, p, k⟩ := h.ex
  refine ⟨fun pins s σ H E I z => ?_⟩
  obtain ⟨env, c, μ, rfl, i, en, q⟩ := z
  exact p.run pins s σ _ E I (k env σ c μ E i en q)
theorem pds_try {xs : List Str} {u n : Str} {i : Nat} {body suite : List Stmt} {b₀ : Stmt} {np pos pos' : Pos} {db ds : DS} (hK : X.K = S.K) (hs : X.stack = X.env :: X.outer) (hf : X.env.frame = some X.env.locals) (hN : X.N.Nodup) (hi : X.N[i]? = some n) (hln : X.env.kindOf n = some .local)
    (hg : Gl X u) (hm : X.mg u = some (.ref (S.A u))) (hx : ExmF S xs u) (tk : L2M.Takes false X W)
    (hb : ∀ (W' : WX) (pn : List (Addr × Obj)) (xe : Value → Shared → Prop), L2M.Takes false (X.tr pn xe) W' → PassesOwn (model X.prog X.w) X.A X.env xe → PDSs (X.tr pn xe) S W' body db)
    (hsu : ∀ (a : Addr) (oe : Obj) (pn : List (Addr × Obj)), (∃ vs : Array Value, oe.data = .fields vs ∧ vs[2]? = some .none) → PDSs (X.suite a ((a, oe) :: pn)) (S.pin (a, oe)) wNo (b₀ :: suite) ds) (hdb : (u == ("__debug__" : Str)) = false := by decide) :
    PDS X S W (.Try body [.ExceptHandler (some (.Name u np)) (some n) (b₀ :: suite) pos'] [] [] pos) (dTry xs u i db ds) := by
  refine ⟨_, L2N.ps_try_as (tb := fun W' => tSd S W' db) (ts := fun a cls d E σ H => ∀ oe : Obj, L2N.Zn cls d oe → (∃ vs, oe.data = .fields vs) → tSd (S.pin (a, oe)) wNo ds E σ H) hs hf hN hi hln ⟨hg, hdb, .inl hm⟩ tk (fun W' pn xe tk' po => (hb W' pn xe tk' po).psd)
    (fun a oe cls d pn hz hv => ⟨fun pins s σ H E I h => ?_⟩), fun env σ c μ E I en q => ?_⟩
  · obtain ⟨vs, hv'⟩ := hv
    exact (hsu a oe pn ⟨vs, hv', hz.2.2 vs hv'⟩).psd.run pins s σ H E I (h oe hz ⟨vs, hv'⟩)
  · refine ⟨env, c, μ, rfl, I, en, ?_⟩
    unfold dTry at q
    cases e : db env μ with
    | nx e1 μ1 => rw [e] at q; exact q
    | bk e1 μ1 => rw [e] at q; exact q
    | ct e1 μ1 => rw [e] at q; exact q
    | rt d1 μ1 => rw [e] at q; exact q
    | stuck => rw [e] at q; exact q
    | ex x ns l e1 μ1 =>
      rw [e] at q
      dsimp only at q
      by_cases hm : xs.contains x = true
      · rw [if_pos hm] at q
        intro dd σ' c' s' I' en' xr
        have m : x ∈ xs := List.contains_iff_mem.mp hm
        refine ⟨exSub x (.inr u), by rw [hK]; exact hx x m, fun hb1 a na => ?_, fun hb0 => ?_⟩
        · rw [if_pos hb1] at q
          intro oe hz hv
          have r : rep (S.pin (a, oe)) c'.io c'.F (.exc x ns l) (.ref a) := by
            unfold rep
            refine ⟨a, oe, dd, rfl, List.mem_cons_self, hz.zc, hv, ?_⟩
            rcases xr with h | ⟨da, fs, h1, h2, h3, h4⟩
            · exact .inl h
            · exact .inr ⟨da, fs, h1, h2, h3, reps_pin l h4⟩
          exact ⟨e1.set i (some (.exc x ns l)), c', μ1, rfl, I'.pin, en'.pin.set r i, endX_run (SQ.step s' q)⟩
        · rw [if_neg (by rw [hb0]; exact Bool.false_ne_true)] at q
          exact q dd σ' c' s' I' en' xr
      · rw [if_neg hm] at q; exact q.elim
theorem hot_suite {a : Addr} {oe : Obj} (h : ∃ vs : Array Value, oe.data = .fields vs ∧ vs[2]? = some .none) : Hot1 (X.A.mark (some (.ref a))) (a, oe) := ⟨rfl, h⟩
end
end DL
namespace DL
open PySem PySem.Spec PyProof.Rows L2 L2P L2H
section
variable {X : Cx} {S : Sx} {W : WX}
theorem pds_tryH {xs : List Str} {u n : Str} {i : Nat} {body suite : List Stmt} {b₀ : Stmt} {np pos pos' : Pos} {db ds : DS} (h0 : S.pn = []) (hK : X.K = S.K) (hs : X.stack = X.env :: X.outer) (hf : X.env.frame = some X.env.locals) (hN : X.N.Nodup) (hi : X.N[i]? = some n) (hln : X.env.kindOf n = some .local)
    (hg : Gl X u) (hm : X.mg u = some (.ref (S.A u))) (hx : ExmF S xs u) (tk : L2M.Takes false X W)
    (hb : ∀ (W' : WX) (pn : List (Addr × Obj)) (xe : Value → Shared → Prop), L2M.Takes false (X.tr pn xe) W' → PassesOwn (model X.prog X.w) X.A X.env xe → PDSs (X.tr pn xe) S W' body db)
    (hsu : ∀ (a : Addr) (oe : Obj) (pn : List (Addr × Obj)), Hot1 (X.A.mark (some (.ref a))) (a, oe) → (a, oe) ∈ (X.suite a ((a, oe) :: pn)).pn → (∀ q ∈ (S.pin (a, oe)).pn, q ∈ (X.suite a ((a, oe) :: pn)).pn) → HotC (X.suite a ((a, oe) :: pn)) →
      PDSs (X.suite a ((a, oe) :: pn)) (S.pin (a, oe)) wNo (b₀ :: suite) ds) (hdb : (u == ("__debug__" : Str)) = false := by decide) :
    PDS X S W (.Try body [.ExceptHandler (some (.Name u np)) (some n) (b₀ :: suite) pos'] [] [] pos) (dTry xs u i db ds) :=
  pds_try hK hs hf hN hi hln hg hm hx tk hb (fun a oe pn hv => hsu a oe pn (hot_suite hv) List.mem_cons_self (fun q h => by
    have h : q ∈ (a, oe) :: S.pn := h
    rw [h0] at h
    rcases List.mem_cons.mp h with h | h
    · rw [h]; exact List.mem_cons_self
    · exact absurd h List.not_mem_nil) ⟨(a, oe), hot_suite hv, List.mem_cons_self⟩) hdb
end
end DL
namespace DL
open PySem PySem.Spec PyProof.Rows L2
mutual
theorem noX_clean : ∀ d : D, clean 0 d = true → noX d = true
  | .tup l, h => by unfold clean at h; unfold noX; exact noXs_clean l h
  | .lst l, h => by unfold clean at h; unfold noX; exact noXs_clean l h
  | .dct ks l, h => by unfold clean at h; unfold noX; exact noXs_clean l h
  | .obj c ns l, h => by unfold clean at h; unfold noX; exact noXs_clean l h
  | .exc c ns l, h => by unfold clean at h; cases h
  | .cel i, _ => rfl
  | .non, _ => rfl
  | .txt, _ => rfl
  | .bl _, _ => rfl
  | .int _, _ => rfl
  | .str _, _ => rfl
  | .ty _, _ => rfl
  | .glo _, _ => rfl
  | .scr _, _ => rfl
theorem noXs_clean : ∀ l : List D, cleans 0 l = true → noXs l = true
  | [], _ => rfl
  | d :: l, h => by
    unfold cleans at h
    have h' := Bool.and_eq_true_iff.mp h
    unfold noXs
    rw [noX_clean d h'.1, noXs_clean l h'.2]; rfl
end
theorem cln_noX {μ : List M} (h : Cln μ) : μ.all noXM = true := List.all_eq_true.mpr fun m hm => by
  have k := h m hm
  cases m with
  | lst l => exact noXs_clean l k
  | dct ks l => exact noXs_clean l k
  | obj c ns l => exact noXs_clean l k
  | dead => rfl
  | dcT ks l => exact noXs_clean l k
  | lck ks l => exact noXs_clean l k
section
variable {X : XP} {μ m : List M} {env : En} {N : En → List M → Prop} {R : D → List M → Prop} {B C : En → List M → Prop} {Z : Str → List Str → List D → En → List M → Prop} {ks : Ks N R B C Z}
theorem s_endX {i : Nat} {o : SO} : WS (endX i o) N R B C Z ks = WS o (fun e m => (((e.set i none).all noXO && m.all noXM) = true ∧ N (e.set i none) m)) (fun d m => (noX d && m.all noXM) = true ∧ R d m)
    (fun e m => (((e.set i none).all noXO && m.all noXM) = true ∧ B (e.set i none) m)) (fun e m => (((e.set i none).all noXO && m.all noXM) = true ∧ C (e.set i none) m)) (fun _ _ _ _ _ => False) ⟨⟩ := by
  cases o with
  | nx e m =>
    show WS (if _ then _ else _) N R B C Z ks = (_ ∧ _)
    by_cases h : ((e.set i none).all noXO && m.all noXM) = true
    · rw [if_pos h]; exact propext ⟨fun q => ⟨h, q⟩, fun q => q.2⟩
    · rw [if_neg h]; exact propext ⟨fun q => q.elim, fun q => absurd q.1 h⟩
  | bk e m =>
    show WS (if _ then _ else _) N R B C Z ks = (_ ∧ _)
    by_cases h : ((e.set i none).all noXO && m.all noXM) = true
    · rw [if_pos h]; exact propext ⟨fun q => ⟨h, q⟩, fun q => q.2⟩
    · rw [if_neg h]; exact propext ⟨fun q => q.elim, fun q => absurd q.1 h⟩
  | ct e m =>
    show WS (if _ then _ else _) N R B C Z ks = (_ ∧ _)
    by_cases h : ((e.set i none).all noXO && m.all noXM) = true
    · rw [if_pos h]; exact propext ⟨fun q => ⟨h, q⟩, fun q => q.2⟩
    · rw [if_neg h]; exact propext ⟨fun q => q.elim, fun q => absurd q.1 h⟩
  | rt d m =>
    show WS (if _ then _ else _) N R B C Z ks = (_ ∧ _)
    by_cases h : (noX d && m.all noXM) = true
    · rw [if_pos h]; exact propext ⟨fun q => ⟨h, q⟩, fun q => q.2⟩
    · rw [if_neg h]; exact propext ⟨fun q => q.elim, fun q => absurd q.1 h⟩
  | ex x ns l e m => rfl
  | stuck => rfl
theorem s_try {xs : List Str} {u : Str} {i : Nat} {b s : DS} : WS (dTry xs u i b s env μ) N R B C Z ks = WS (b env μ) N R B C (fun x ns l e m => xs.contains x = true ∧ (if exSub x (.inr u) = true then WS (endX i (s (e.set i (some (.exc x ns l))) m)) N R B C Z ⟨⟩ else Z x ns l e m)) ⟨⟩ := by
  unfold dTry
  cases b env μ with
  | ex x ns l e m =>
    show WS (if _ then _ else _) N R B C Z ks = (_ ∧ _)
    by_cases h : xs.contains x = true
    · rw [if_pos h]
      by_cases h2 : exSub x (.inr u) = true
      · rw [if_pos h2, if_pos h2]; exact propext ⟨fun q => ⟨h, q⟩, fun q => q.2⟩
      · rw [if_neg h2, if_neg h2]; exact propext ⟨fun q => ⟨h, q⟩, fun q => q.2⟩
    · rw [if_neg h]; exact propext ⟨fun q => q.elim, fun q => absurd q.1 h⟩
  | _ => rfl
def isxt (xs us : List Str) : D → Option D
  | .exc x _ _ => if xs.contains x = true then some (.bl (exSubs x us)) else none
  | _ => none
theorem w_isXT {xs us : List Str} {da : DE} {Q : D → List M → Prop} {k : Kt Q X} : WO (dIsXT xs us da env μ) Q X k = WO (da env μ) (fun x m1 => OP (isxt xs us x) (fun d => Q d m1) ⟨⟩) X ⟨⟩ := by
  unfold dIsXT
  cases da env μ with
  | ok x m1 =>
    cases x with
    | exc x ns l =>
      show WO (if xs.contains x = true then Out.ok (D.bl (exSubs x us)) m1 else .stuck) Q X k = OP (if xs.contains x = true then some (D.bl (exSubs x us)) else none) (fun d => Q d m1) ⟨⟩
      by_cases h : xs.contains x = true
      · rw [if_pos h, if_pos h]; rfl
      · rw [if_neg h, if_neg h]; rfl
    | _ => rfl
  | ex _ _ _ _ => rfl
  | stuck => rfl
end
end DL
set_option maxHeartbeats 1000000
namespace DL
open PySem PySem.Spec PyProof.Rows L2 Builtin.Str
/-! ### str(x) of a tuple of two numbers: some text, which one is not known (a repr of it may be under way) -/
end DL
set_option maxHeartbeats 1000000
namespace DL
open PySem PySem.Spec PyProof.Rows L2
/-! ### B.__init__(self, ..), B an own class over ValueError that has no __init__ of its own -/
/-! ### C(..), C an own class over ValueError with an own __init__ -/
section
variable {X : Cx} {S : Sx} {W : WX} {md : Bool} {x : Str} {C fI : Addr} {k n : Nat} {fd : FuncData} {ps : List Str} {fl : List (Str × Nat)} {e : Expr} {es : List Expr} {p pos pos2 : Pos} {dd : List D} {ds : DA}
/-- raise C(..): the fields of C by its __init__ -/
def sRaiseI (x : Str) (n : Nat) (fl : List (Str × Nat)) (dd : List D) (ds : DA) : DS := fun env μ => (ds env μ).bindS env fun l μ1 => if (l ++ dd).length = n then (if l.length ≤ 1000 then .ex x (fl.map (·.1)) (fl.map fun p => (l ++ dd).getD p.2 .non) env μ1 else .stuck) else .stuck
end
/-! ### such an __init__ -/
/-! ### what a class must have, as a check -/
end DL
set_option maxHeartbeats 2000000
/-! ### try: .. except (A, B): .., where the suite is not come to: other exceptions pass -/
namespace DL
open PySem PySem.Spec PyProof.Rows L2
def dTryP (xs : List Str) (u1 u2 : Str) (body : DS) : DS := fun env μ => match body env μ with
  | .ex x ns l e μ1 => if (xs.contains x && (!exSub x (.inr u1) && !exSub x (.inr u2))) = true then .ex x ns l e μ1 else .stuck
  | o => o
end DL
set_option maxHeartbeats 1000000
namespace DL
open PySem PySem.Spec PyProof.Rows L2
/-! ### readings -/
section
variable {env : En} {μ : List M} {N : En → List M → Prop} {R : D → List M → Prop} {B C : En → List M → Prop} {Z : Str → List Str → List D → En → List M → Prop} {ks : Ks N R B C Z} {x u1 u2 : Str} {n : Nat} {fl : List (Str × Nat)} {dd : List D} {ds : DA} {xs : List Str} {b : DS}
theorem s_raiseI : WS (sRaiseI x n fl dd ds env μ) N R B C Z ks = WO (ds env μ) (fun l m => (l ++ dd).length = n ∧ l.length ≤ 1000 ∧ Z x (fl.map (·.1)) (fl.map fun p => (l ++ dd).getD p.2 .non) env m) (fun c ns l m => Z c ns l env m) ⟨⟩ := by
  unfold sRaiseI
  rw [w_bindS]
  refine wo_cong fun l m => ?_
  by_cases h : (l ++ dd).length = n
  · rw [if_pos h]
    by_cases h2 : l.length ≤ 1000
    · rw [if_pos h2]; exact propext ⟨fun q => ⟨h, h2, q⟩, fun q => q.2.2⟩
    · rw [if_neg h2]; exact propext ⟨fun q => q.elim, fun q => absurd q.2.1 h2⟩
  · rw [if_neg h]; exact propext ⟨fun q => q.elim, fun q => absurd q.1 h⟩
theorem s_tryP : WS (dTryP xs u1 u2 b env μ) N R B C Z ks = WS (b env μ) N R B C (fun x ns l e m => (xs.contains x && (!exSub x (.inr u1) && !exSub x (.inr u2))) = true ∧ Z x ns l e m) ⟨⟩ := by
  unfold dTryP
  cases b env μ with
  | ex x ns l e m =>
    show WS (if _ then _ else _) N R B C Z ks = (_ ∧ _)
    by_cases h : (xs.contains x && (!exSub x (.inr u1) && !exSub x (.inr u2))) = true
    · rw [if_pos h]; exact propext ⟨fun q => ⟨h, q⟩, fun q => q.2⟩
    · rw [if_neg h]; exact propext ⟨fun q => q.elim, fun q => absurd q.1 h⟩
  | _ => rfl
end
end DL
/-! ### a list, a dict among texts: none of them is equal to it -/
namespace PySem.SeqAt
open AutoSeq1 (wpAny_loadPart')
open MeetsSeq
end PySem.SeqAt
namespace DL
open PySem PySem.Spec PyProof.Rows L2
end DL
/-! ### the head's facts, with the classes' common record besides (reading an attribute off a class looks there) -/
namespace DL
open PySem PySem.Spec PyProof.Rows L2 He
end DL
namespace DL
open PySem PySem.Spec PyProof.Rows L2
/-! ### f'{x!r}' of an object whose class says how -/
section
variable {X : Cx} {S : Sx} {W : WX} {a b e : Expr} {da db d : DE} {pos p : Pos} {k : Nat} {C f : Addr} {fd : FuncData} {ps : List Str} {sp : Sp}
def dFmR (c : Str) (G : GF) (da : DE) : DE := fun env μ => (da env μ).bind fun x μ1 => if clsAt μ1 x = some c then (G [x] μ1).bind fun r μ2 => (match r with
  | .str z => if z.length ≤ 100000 then .ok (.str z) μ2 else .stuck
  | _ => .stuck) else .stuck
variable {S0 : Sx} {n : Nat} {kr : Nat} {G : GF} {c : Str}
/-! ### a choice of what an expression means -/
def selT {α : Type} : List (Str × α) → Option Str → Option α
  | [], _ => none
  | (x, y) :: l, o => if o = some x then some y else selT l o
/-! x == y, x != y -/
def dOwns (tb : List (Str × GF)) (da db : DE) : DE := fun env μ => (da env μ).bind fun x μ1 => (db env μ1).bind fun y μ2 => match selT tb (clsAt μ2 x) with
  | some G => if (tagOf μ2 y).isSome = true then (G [x, y] μ2).bind fun r μ3 => (match r with
    | .bl b => .ok (.bl b) μ3
    | _ => .stuck) else .stuck
  | none => .stuck
def dNes (tb : List (Str × GF)) (da db : DE) : DE := fun env μ => (da env μ).bind fun x μ1 => (db env μ1).bind fun y μ2 => match selT tb (clsAt μ2 x) with
  | some G => if (tagOf μ2 y).isSome = true then (G [x, y] μ2).bind fun r μ3 => (match r with
    | .bl b => .ok (.bl (!b)) μ3
    | _ => .stuck) else .stuck
  | none => .stuck
def dObSs (tb : List (Str × GF)) (da : DE) : DE := fun env μ => (da env μ).bind fun x μ1 => match selT tb (clsAt μ1 x) with
  | some G => (G [x] μ1).bind fun r μ2 => (match r with
    | .str z => .ok (.str z) μ2
    | _ => .stuck)
  | none => .stuck
def dMeths (m : Str) (tb : List (Str × Nat × GF × List D)) (da : DE) (ds : DA) : DE := fun env μ => (da env μ).bind fun x μ1 => match selT tb (clsAt μ1 x) with
  | some (np, G, dd) => if (fldAt μ1 m x).isNone = true then (ds env μ1).bind fun l μ2 => if (x :: (l ++ dd)).length = np then G (x :: (l ++ dd)) μ2 else .stuck
    else .stuck
  | none => .stuck
/-! ### x += e, whole numbers -/
end
/-! ### readings -/
section
variable {X : XP} {N : En → List M → Prop} {R : D → List M → Prop} {B C : En → List M → Prop} {Z : Str → List Str → List D → En → List M → Prop} {ks : Ks N R B C Z} {env : En} {μ : List M} {Q : D → List M → Prop} {k : Kt Q X}
theorem w_fmR {c : Str} {G : GF} {da : DE} : WO (dFmR c G da env μ) Q X k = WO (da env μ) (fun x m1 => clsAt m1 x = some c ∧ WO (G [x] m1) (fun r m3 => OP (isS r) (fun z => z.length ≤ 100000 ∧ Q (.str z) m3) ⟨⟩) X ⟨⟩) X ⟨⟩ := by
  unfold dFmR
  rw [w_bind]
  refine wo_cong fun x m1 => ?_
  by_cases h : clsAt m1 x = some c
  · rw [if_pos h, w_bind]
    refine Eq.trans (wo_cong (Q' := fun r m3 => OP (isS r) (fun z => z.length ≤ 100000 ∧ Q (.str z) m3) ⟨⟩) fun r m3 => ?_) (propext ⟨fun q => ⟨h, q⟩, fun q => q.2⟩)
    cases r with
    | str z =>
      show WO (if z.length ≤ 100000 then .ok (.str z) m3 else .stuck) Q X ⟨⟩ = (z.length ≤ 100000 ∧ Q (.str z) m3)
      by_cases hz : z.length ≤ 100000
      · rw [if_pos hz]; exact propext ⟨fun q => ⟨hz, q⟩, fun q => q.2⟩
      · rw [if_neg hz]; exact propext ⟨fun q => q.elim, fun q => absurd q.1 hz⟩
    | _ => rfl
  · rw [if_neg h]; exact propext ⟨fun q => q.elim, fun q => absurd q.1 h⟩
theorem w_owns {tb : List (Str × GF)} {da db : DE} : WO (dOwns tb da db env μ) Q X k = WO (da env μ) (fun x m1 => WO (db env m1) (fun y m2 => OP (selT tb (clsAt m2 x)) (fun G => (tagOf m2 y).isSome = true ∧ WO (G [x, y] m2) (fun r m3 => OP (isB r) (fun b => Q (.bl b) m3) ⟨⟩) X ⟨⟩) ⟨⟩) X ⟨⟩) X ⟨⟩ := by
  unfold dOwns
  rw [w_bind]
  refine wo_cong fun x m1 => ?_
  rw [w_bind]
  refine wo_cong fun y m2 => ?_
  cases selT tb (clsAt m2 x) with
  | none => rfl
  | some G =>
    show WO (if (tagOf m2 y).isSome = true then (G [x, y] m2).bind _ else .stuck) Q X ⟨⟩ = ((tagOf m2 y).isSome = true ∧ WO (G [x, y] m2) (fun r m3 => OP (isB r) (fun b => Q (.bl b) m3) ⟨⟩) X ⟨⟩)
    by_cases h : (tagOf m2 y).isSome = true
    · rw [if_pos h, w_bind]
      refine Eq.trans (wo_cong (Q' := fun r m3 => OP (isB r) (fun b => Q (.bl b) m3) ⟨⟩) fun r m3 => ?_) (propext ⟨fun q => ⟨h, q⟩, fun q => q.2⟩)
      cases r <;> rfl
    · rw [if_neg h]; exact propext ⟨fun q => q.elim, fun q => absurd q.1 h⟩
theorem w_nes {tb : List (Str × GF)} {da db : DE} : WO (dNes tb da db env μ) Q X k = WO (da env μ) (fun x m1 => WO (db env m1) (fun y m2 => OP (selT tb (clsAt m2 x)) (fun G => (tagOf m2 y).isSome = true ∧ WO (G [x, y] m2) (fun r m3 => OP (isB r) (fun b => Q (.bl (!b)) m3) ⟨⟩) X ⟨⟩) ⟨⟩) X ⟨⟩) X ⟨⟩ := by
  unfold dNes
  rw [w_bind]
  refine wo_cong fun x m1 => ?_
  rw [w_bind]
  refine wo_cong fun y m2 => ?_
  cases selT tb (clsAt m2 x) with
  | none => rfl
  | some G =>
    show WO (if (tagOf m2 y).isSome = true then (G [x, y] m2).bind _ else .stuck) Q X ⟨⟩ = ((tagOf m2 y).isSome = true ∧ WO (G [x, y] m2) (fun r m3 => OP (isB r) (fun b => Q (.bl (!b)) m3) ⟨⟩) X ⟨⟩)
    by_cases h : (tagOf m2 y).isSome = true
    · rw [if_pos h, w_bind]
      refine Eq.trans (wo_cong (Q' := fun r m3 => OP (isB r) (fun b => Q (.bl (!b)) m3) ⟨⟩) fun r m3 => ?_) (propext ⟨fun q => ⟨h, q⟩, fun q => q.2⟩)
      cases r <;> rfl
    · rw [if_neg h]; exact propext ⟨fun q => q.elim, fun q => absurd q.1 h⟩
theorem w_obSs {tb : List (Str × GF)} {da : DE} : WO (dObSs tb da env μ) Q X k = WO (da env μ) (fun x m1 => OP (selT tb (clsAt m1 x)) (fun G => WO (G [x] m1) (fun r m3 => OP (isS r) (fun z => Q (.str z) m3) ⟨⟩) X ⟨⟩) ⟨⟩) X ⟨⟩ := by
  unfold dObSs
  rw [w_bind]
  refine wo_cong fun x m1 => ?_
  cases selT tb (clsAt m1 x) with
  | none => rfl
  | some G =>
    show WO ((G [x] m1).bind _) Q X ⟨⟩ = WO (G [x] m1) (fun r m3 => OP (isS r) (fun z => Q (.str z) m3) ⟨⟩) X ⟨⟩
    rw [w_bind]
    refine wo_cong fun r m3 => ?_
    cases r <;> rfl
theorem w_meths {m : Str} {tb : List (Str × Nat × GF × List D)} {da : DE} {ds : DA} : WO (dMeths m tb da ds env μ) Q X k = WO (da env μ) (fun x m1 => OP (selT tb (clsAt m1 x)) (fun t => (fldAt m1 m x).isNone = true ∧ WO (ds env m1) (fun l m2 => (x :: (l ++ t.2.2)).length = t.1 ∧ WO (t.2.1 (x :: (l ++ t.2.2)) m2) Q X ⟨⟩) X ⟨⟩) ⟨⟩) X ⟨⟩ := by
  unfold dMeths
  rw [w_bind]
  refine wo_cong fun x m1 => ?_
  cases selT tb (clsAt m1 x) with
  | none => rfl
  | some t =>
    obtain ⟨np, G, dd⟩ := t
    show WO (if (fldAt m1 m x).isNone = true then (ds env m1).bind _ else .stuck) Q X ⟨⟩ = ((fldAt m1 m x).isNone = true ∧ WO (ds env m1) (fun l m2 => (x :: (l ++ dd)).length = np ∧ WO (G (x :: (l ++ dd)) m2) Q X ⟨⟩) X ⟨⟩)
    by_cases h : (fldAt m1 m x).isNone = true
    · rw [if_pos h, w_bind]
      refine Eq.trans (wo_cong (Q' := fun l m2 => (x :: (l ++ dd)).length = np ∧ WO (G (x :: (l ++ dd)) m2) Q X ⟨⟩) fun l m2 => ?_) (propext ⟨fun q => ⟨h, q⟩, fun q => q.2⟩)
      by_cases hl : (x :: (l ++ dd)).length = np
      · rw [if_pos hl]; exact propext ⟨fun q => ⟨hl, q⟩, fun q => q.2⟩
      · rw [if_neg hl]; exact propext ⟨fun q => q.elim, fun q => absurd q.1 hl⟩
    · rw [if_neg h]; exact propext ⟨fun q => q.elim, fun q => absurd q.1 h⟩
end
end DL
set_option maxHeartbeats 1000000
/-! zip(a, b, strict=True): a list beside a tuple, of one length -/
set_option maxHeartbeats 1000000
/-! a strict zip, walked -/
namespace DL
open PySem PySem.Spec PyProof.Rows L2 L2P L2H
/-! ### for a, b in zip(xs, ys, strict=True): a list beside a tuple of as many items -/
def iZip (ds : DA) : DI := fun env μ => (ds env μ).bind fun l μ1 => match l with
  | [.tup _, _] => .stuck
  | [x, .tup ys] => match seqOf μ1 x with
    | some xs => if xs.length = ys.length then .ok (List.zipWith (fun p q => D.tup [p, q]) xs ys, fun μ2 => seqOf μ2 x = some xs) μ1 else .stuck
    | none => .stuck
  | _ => .stuck
section
variable {X : Cx} {S : Sx} {W : WX} {a b e tg : Expr} {es : List Expr} {da db d : DE} {dt : DT} {ds : DA} {pos p tpos kp cp : Pos} {k j : Nat} {xs : List Str} {u : Ty}
/-! ### n.f of a caught exception n -/
def dXf (xs : List Str) (f : Str) (da : DE) : DE := fun env μ => (da env μ).bind fun x μ1 => match x with
  | .exc c ns l => if xs.contains c = true then match fldOf f ns l with
    | some d => .ok d μ1
    | none => .stuck
    else .stuck
  | _ => .stuck
end
/-! ### readings -/
section
variable {X : XP} {env : En} {μ : List M}
def xfd (xs : List Str) (f : Str) : D → Option D
  | .exc c ns l => if xs.contains c = true then fldOf f ns l else none
  | _ => none
theorem w_xf {xs : List Str} {f : Str} {da : DE} {Q : D → List M → Prop} {k : Kt Q X} : WO (dXf xs f da env μ) Q X k = WO (da env μ) (fun x m1 => OP (xfd xs f x) (fun d => Q d m1) ⟨⟩) X ⟨⟩ := by
  unfold dXf
  rw [w_bind]
  refine wo_cong fun x m => ?_
  cases x with
  | exc c ns l =>
    show WO (if xs.contains c = true then (match fldOf f ns l with | some d => .ok d m | none => .stuck) else .stuck) Q X ⟨⟩ = OP (if xs.contains c = true then fldOf f ns l else none) (fun d => Q d m) ⟨⟩
    by_cases h : xs.contains c = true
    · rw [if_pos h, if_pos h]
      cases fldOf f ns l <;> rfl
    · rw [if_neg h, if_neg h]; rfl
  | _ => rfl
def zipO (μ : List M) : List D → Option (List D × (List M → Prop))
  | [.tup _, _] => none
  | [x, .tup ys] => match seqOf μ x with
    | some xs => if xs.length = ys.length then some (List.zipWith (fun p q => D.tup [p, q]) xs ys, fun μ2 => seqOf μ2 x = some xs) else none
    | none => none
  | _ => none
theorem i_zip {ds : DA} {Q : List D × (List M → Prop) → List M → Prop} {k : Kt Q X} : WO (iZip ds env μ) Q X k = WO (ds env μ) (fun l m => OP (zipO m l) (fun r => Q r m) ⟨⟩) X ⟨⟩ := by
  unfold iZip
  rw [w_bind]
  refine wo_cong fun l m => ?_
  unfold zipO
  split
  · rfl
  · rename_i x ys nt
    split
    · rename_i xs es
      by_cases en : xs.length = ys.length
      · rw [if_pos en, if_pos en] <;> rfl
      · rw [if_neg en, if_neg en] <;> rfl
    · rfl
  · rfl
end
end DL
/-! ### the top's run, looked at in parts: each part is its own run in the kernel, so that none needs all the memory at once -/
namespace DL
open PySem PySem.Spec PyProof.Rows L2 He
end DL
namespace DL
open PySem PySem.Spec PyProof.Rows L2
/-! ### max(xs) of a list of whole numbers -/
def intsD : List D → Option (List Int)
  | [] => some []
  | .int i :: l => (intsD l).map (i :: ·)
  | _ => none
section
variable {X : Cx} {S : Sx} {W : WX}
theorem intsD_at {io : List Addr} {F : Hp} : ∀ {l : List D} {xs : List V} {ns : List Int}, reps S io F l xs → intsD l = some ns → xs = ns.map V.int
  | [], xs, ns, r, e => by cases e; exact r.eq_nil
  | d :: l, xs, ns, r, e => by
    obtain ⟨v, r0, rfl, r1, r2⟩ := r.uncons
    cases d with
    | int i =>
      have e : (intsD l).map (i :: ·) = some ns := e
      cases e2 : intsD l with
      | none => rw [e2] at e; cases e
      | some ms =>
        rw [e2] at e
        cases e
        rw [rep_int.mp r1, intsD_at r2 e2]
        rfl
    | _ => cases e
end
end DL
set_option maxHeartbeats 1000000
/-! t[::-1] of a tuple of two -/
namespace DL
open PySem PySem.Spec PyProof.Rows L2
section
variable {X : Cx} {S : Sx} {W : WX} {a b e : Expr} {da db d : DE} {pos p : Pos}
/-- x[::-1] of a list, a text, a tuple of two -/
def revB (μ : List M) : D → Option D
  | .tup [x, y] => some (.tup [y, x])
  | x => revA μ x
def dRevB (da : DE) : DE := fun env μ => (da env μ).bind fun x μ1 => match revB μ1 x with
  | some d => .ok d μ1
  | none => .stuck
end
section
variable {X : XP} {env : En} {μ : List M}
theorem w_revB {da : DE} {Q : D → List M → Prop} {k : Kt Q X} : WO (dRevB da env μ) Q X k = WO (da env μ) (fun x m1 => OP (revB m1 x) (fun d => Q d m1) ⟨⟩) X ⟨⟩ := by
  unfold dRevB
  rw [w_bind]
  refine wo_cong fun x m1 => ?_
  cases revB m1 x <;> rfl
end
end DL
namespace DL
open PySem PySem.Spec PyProof.Rows L2
/-! ### x, y = f(..): two new lists handed back in a tuple, to be changed by the caller -/
abbrev G2 := List D → List M → Out (List D × List D)
section
variable {X : Cx} {S : Sx} {W : WX} {a b e o : Expr} {es : List Expr} {da db d : DE} {ds : DA} {pos p apos : Pos} {k : Nat} {x y m c : Str} {f : Addr} {fd : FuncData} {ps : List Str} {np : Nat} {GL : G2} {dd : List D} {md : Bool}
def dCallN2 (np : Nat) (G : G2) (dd : List D) (ds : DA) : En → List M → Out (List D × List D) := fun env μ => (ds env μ).bind fun l μ1 => if (l ++ dd).length = np then G (l ++ dd) μ1 else .stuck
/-- x, y = f(..) -/
def sNew2 (i j : Nat) (d : En → List M → Out (List D × List D)) : DS := fun env μ => (d env μ).bindS env fun l μ1 => .nx ((env.set i (some (.cel μ1.length))).set j (some (.cel (μ1.length + 1)))) (μ1 ++ [.lst l.1] ++ [.lst l.2])
end
end DL
/-! ### readings -/
namespace DL
open PySem PySem.Spec PyProof.Rows L2
section
variable {X : XP} {N : En → List M → Prop} {R : D → List M → Prop} {B C : En → List M → Prop} {Z : Str → List Str → List D → En → List M → Prop} {ks : Ks N R B C Z} {env : En} {μ m : List M}
theorem s_new2 {i j : Nat} {d : En → List M → Out (List D × List D)} : WS (sNew2 i j d env μ) N R B C Z ks = WO (d env μ) (fun l m => N ((env.set i (some (.cel m.length))).set j (some (.cel (m.length + 1)))) (m ++ [.lst l.1] ++ [.lst l.2])) (fun c ns l m => Z c ns l env m) ⟨⟩ := w_bindS
theorem w_callN2 {Q : List D × List D → List M → Prop} {k : Kt Q X} {np : Nat} {G : G2} {dd : List D} {as : DA} : WO (dCallN2 np G dd as env μ) Q X k = WO (as env μ) (fun l m => (l ++ dd).length = np ∧ WO (G (l ++ dd) m) Q X ⟨⟩) X ⟨⟩ := by
  unfold dCallN2
  rw [w_bind]
  refine wo_cong fun l m => ?_
  by_cases h : (l ++ dd).length = np
  · rw [if_pos h]; exact propext ⟨fun q => ⟨h, q⟩, fun q => q.2⟩
  · rw [if_neg h]; exact propext ⟨fun q => q.elim, fun q => absurd q.1 h⟩
end
end DL
/-! x != y, x == y of tuples that hold objects with an own ==, where all is equal -/
namespace DL
open PySem PySem.Spec PyProof.Rows L2
end DL
set_option maxHeartbeats 1000000
/-! repr([x]), x an object whose class says how -/
namespace LRepr
open PySem
open Sem (wp)
end LRepr
namespace LRepr
open PySem PySem.Spec PyProof.Rows L2 DL
end LRepr
namespace DL
open PySem PySem.Spec PyProof.Rows L2 LRepr
end DL
set_option maxHeartbeats 3200000
/-! sorted(set(xs)), xs a list of whole numbers -/
namespace LSet
open PySem PySem.Spec PyProof.Rows L2
section
variable {P : Program} {w : World} {A : Around} {E : Value → Shared → Prop} {s : Shared}
/-- a new set -/
abbrev sob (w : World) : Obj := { cls := .type "set", dict := none, data := .set #[] 0 (.fresh 0 0 (!w.params.followText "set-order")) }
theorem set_of_lst {l : Addr} {its : Array Value} (ns : List Int) {Q : Value → Shared → Prop} (hh : A.handled = none) (hl : s.heap.IsList l its) (hi : IntsAre its.toList ns) (hb : ns.length + 1 < scanBound)
    (h : ∀ (h' : Heap) (tk c : Nat), SetR w h' s.heap.objs.size (fun j => decide (j ∈ ns)) c → (∀ b o, s.heap.get? b = some o → h'.get? b = some o) → Q (.ref s.heap.objs.size) { s with heap := h', toks := tk }) :
    wpAny (model P w) A (call (.type "set") [.ref l]) Q E s := by
  have hz : its.size = ns.length := Array.length_toList ▸ IntsAre.length hi
  obtain ⟨cc, tl, hmro⟩ := F.called_set.mro
  have q1 := F.called_set.made
  have q2 := F.called_set.sub
  refine wpAny_call (codeAny_of_tree ?_)
  show wpAny _ _ (callAny (.type "set") ⟨[.ref l], []⟩) _ _ s
  refine wpAny_pure ⟨Code.quiet_builtin _ (by decide +kernel), codeAny_builtin F.entry_type_call ?_⟩
  rw [Around.under_plain (weight_type_call_type "set" [.ref l] []) (by rfl)]
  have q3 := F.called_set.notType
  have q4 := F.called_set.canCreate
  have q5 := F.typeCall_set_1 (.ref l)
  repeat (any_goals (first | assumption | wp_step))
  refine codeAny_mono (code_set_led1 (.ref l) (E := E) (Q₁ := fun ob s1 => ob = .ref s.heap.objs.size ∧ s1 = { s with heap := s.heap.push (sob w) }) ⟨rfl, rfl⟩) fun r s1 hr => ?_
  cases r with
  | error e => exact hr
  | ok fl =>
    cases fl with
    | ret ob =>
      obtain ⟨rfl, rfl⟩ := hr
      have kS : (s.heap.push (sob w)).get? s.heap.objs.size = some (sob w) := Heap.get?_push_size _ rfl
      have kT : Shared.TypeIs { s with heap := s.heap.push (sob w) } (.ref s.heap.objs.size) "set" := ⟨_, kS, rfl⟩
      have q6 := F.called_set.init.lookup
      have q7 := F.called_set.init.bind (.ref s.heap.objs.size)
      repeat (any_goals (first | assumption | wp_step))
      refine codeAny_mono (codeAny_call_builtin (R := wants (fun r s2 => r = .none ∧ ∃ h' tk c, s2 = { s with heap := h', toks := tk } ∧ SetR w h' s.heap.objs.size (fun j => decide (j ∈ ns)) c ∧
          (∀ b o, s.heap.get? b = some o → h'.get? b = some o)) E) F.called_set.init.plain F.entry_set_init (check_set_init_1 kT ?_)) fun r2 s2 hr2 => ?_
      · obtain ⟨ol, hol, hcl, nl, hdl⟩ := hl
        obtain ⟨oc, od, oa, os⟩ := ol
        simp only at hcl hdl
        subst hcl; subst hdl
        have k1 : (s.heap.push (sob w)).get? l = some { cls := .type "list", dict := od, data := .seq its nl, slots := os } := Heap.get?_push_of_some _ hol
        have k2 := F.sub_list_set
        have k3 := F.sub_list_frozenset
        have k4 : (Value.type "list" == Value.type "dict") = false := by decide
        have k5 : (s.heap.push (sob w)).IsList l its := ⟨_, k1, rfl, nl, rfl⟩
        unfold Builtin.«set.__init__» noKeywords Builtin.Frozenset.updateFrom
        generalize hPI : pyIter = PI
        wp_walk
        subst hPI
        refine wpAny_pyIter_list k5 ?_
        refine wpAny_bind (wpAny_runValue ?_)
        have hlS : l < s.heap.objs.size := Heap.lt_size hol
        have hz1 : (s.heap.push (sob w)).objs.size = s.heap.objs.size + 1 := Heap.size_push ..
        have nI : l ≠ (s.heap.push (sob w)).objs.size := by rw [hz1]; exact Nat.ne_of_lt (Nat.lt_succ_of_lt hlS)
        have nS : s.heap.objs.size ∉ [(s.heap.push (sob w)).objs.size, l] := fun m => by
          rw [hz1] at m
          rcases List.mem_cons.mp m with m | m
          · exact absurd m (Nat.ne_of_lt (Nat.lt_succ_self _))
          · exact absurd (List.mem_singleton.mp m) (Nat.ne_of_gt hlS)
        have val : ∀ (i : Nat) (v : Value), its[i]? = some v → ∃ k t, ns[i]? = some k ∧ v = .int k t := fun i v hv => by
          have hi' : i < ns.length := hz ▸ (Array.getElem?_eq_some_iff.mp hv).1
          obtain ⟨t, e⟩ := PyProof.Rows.IntsAre.int_at hi i v (by rw [Array.getElem?_toList]; exact hv)
          refine ⟨ns[i], t, List.getElem?_eq_getElem hi', ?_⟩
          rw [e, List.getD_eq_getElem?_getD, List.getElem?_eq_getElem hi'] <;> rfl
        refine set_update_ints ((Walks.list (by simp [hh]) _ l nI its).toS) s.heap.objs.size nS ns hz hb val (its.size - 0) 0 _ (by omega) (Nat.zero_le _) ⟨⟨_, Heap.get?_push_size _ rfl, rfl, rfl⟩, (k5.push _)⟩ ?hS0 ?hR
        case hS0 => exact ⟨0, Nat.le_refl 0, setR_new_at (Heap.get?_push_of_some _ kS)⟩
        case hR =>
          intro s' c' hm hc' hS'
          obtain ⟨h', g2, d', tk', os'⟩ := s'
          obtain rfl : g2 = s.gens := hm.gens
          obtain rfl : d' = s.drawn := hm.drawn
          obtain rfl : os' = s.os := hm.os
          show wpAny _ _ _ _ _ _
          refine wpAny_pure ?_
          show wpAny _ _ (ret Value.none) _ _ _
          refine wpAny_pure ⟨rfl, h', tk', c', rfl, hS', fun b o e => ?_⟩
          have hb0 : b < s.heap.objs.size := Heap.lt_size e
          refine hm.heap b o (fun m => ?_) (Heap.get?_push_of_some _ (Heap.get?_push_of_some _ e))
          have m : b ∈ [s.heap.objs.size, (s.heap.push (sob w)).objs.size] := m
          rw [hz1] at m
          rcases List.mem_cons.mp m with m | m
          · exact absurd m (Nat.ne_of_lt hb0)
          · exact absurd (List.mem_singleton.mp m) (Nat.ne_of_lt (Nat.lt_succ_of_lt hb0))
      · cases r2 with
        | error e => exact hr2
        | ok fl2 =>
          cases fl2 with
          | ret r =>
            obtain ⟨rfl, h', tk, c', rfl, hS', hk'⟩ := hr2
            repeat (any_goals (first | assumption | wp_step))
            exact h _ _ _ hS' hk'
          | _ => exact hr2.elim
    | _ => exact hr.elim
/-- sorted(a set of whole numbers), any number of them -/
theorem sorted_of_set {a : Addr} {T : Int → Bool} {n : Nat} {Q : Value → Shared → Prop} (R : SetR w s.heap a T n) (hh : A.handled = none)
    (hQ : ∀ s' p (out : List Value) (c : Nat) (ns : List Int), (∀ b o, s.heap.get? b = some o → s'.heap.get? b = some o) → s'.gens = s.gens → s'.os = s.os → s.heap.objs.size ≤ p →
      s'.heap.get? p = some (seqObj "list" out.toArray c) → IntsAre out ns → ns.Pairwise (· < ·) → (∀ k, k ∈ ns ↔ T k = true) → ns.length < scanBound → Q (.ref p) s') :
    wpAny (model P w) A (call (.builtin "sorted") [.ref a]) Q E s := by
  obtain ⟨o, es, ep, t, ho, hex, hd, g, nd, hm, hb, hf, hn, hr, hl⟩ := R
  refine Calls.call_function_entry kind_sorted plain_sorted entry_sorted (args_sorted1 (.ref a)) ?_
  unfold Builtin.«sorted»
  refine wpAny_bind (m := checkCount "sorted" 1 1 _) (wpAny_pure ?_)
  refine wpAny_bind (collect_set (A := A.in1) hh ⟨o, ho, hex.1, hd⟩ hf hb hr hl fun s1 vs k1 hz g1 o1 pm => ?_)
  have hv : vs.length = es.size := by rw [pm.length_eq, List.length_map, Array.length_toList]
  have hs : vs.length ≤ sizeLine := by rw [hv]; exact fits_of_scanBound hb
  have hI : IntsAre vs (vs.map Builtin.Re.reRawOf) := ints_of vs fun v hv => by
    obtain ⟨e, he, q⟩ := List.mem_map.mp (pm.mem_iff.mp hv)
    obtain ⟨k, tk, h1, _⟩ := g e he
    exact ⟨k, tk, q ▸ h1⟩
  have pk : (vs.map Builtin.Re.reRawOf).Perm (es.toList.map keyOf) := by
    have q := pm.map Builtin.Re.reRawOf
    rwa [List.map_map] at q
  refine wpAny_bind (wpAny_newList ?_ hs)
  have hoL : (s1.heap.push (seqObj "list" vs.toArray 0)).get? s1.heap.objs.size = some (seqObj "list" vs.toArray 0) := Heap.get?_push_size _ rfl
  refine wpAny_bind (wpAny_holding (wpAny_call_entry slot_list_sort ⟨_, hoL, rfl⟩ entry_list_sort (SrtO.list_sort_ord SrtO.swo_int hoL hs (fun h2 => SrtO.ints_sortable hI h2) fun out h1 h2 => ⟨_, rfl, ?_⟩) (args_list_sort (.ref s1.heap.objs.size))))
  obtain ⟨z1, z2, z3⟩ := SrtO.ints_out hI h1 h2
  obtain ⟨c, hc⟩ := sortedHeap_at (vs := vs) (out := out.toArray) hoL
  have pn : (out.map SrtO.iv).Perm (es.toList.map keyOf) := z2.trans pk
  refine wpAny_pure ⟨_, rfl, hQ _ s1.heap.objs.size out c _ (fun b u e => ?_) g1 o1 hz hc z1 (lt_of_le_nodup _ z3 (pn.nodup_iff.mpr nd)) (fun k => by rw [pn.mem_iff, ← hm k]) ?_⟩
  · have q := k1 b u e
    have lt := Heap.lt_size q
    show (sortedHeap (s1.heap.push (seqObj "list" vs.toArray 0)) s1.heap.objs.size vs out.toArray).get? b = some u
    rw [sortedHeap_old (Nat.ne_of_lt lt) (by rw [size_push']; exact Nat.lt_succ_of_lt lt)]
    exact Heap.get?_push_of_some _ q
  · rw [pn.length_eq, List.length_map, Array.length_toList]; exact hb
end
def tSortSet (K : PySem.W.Frag) (ta : TE) : TE := fun σ H Q => ta σ H fun x H1 => ∃ (l : Addr) (ns : List Int), x = V.ref l ∧ SqL K H1 l (ns.map V.int) ∧ ns.length ≤ 4000 ∧
  ∀ (ms : List Int) (p : Addr), ms.Pairwise (· < ·) → (∀ k, k ∈ ms ↔ k ∈ ns) → H1 p = none → Q (.ref p) (upd H1 p (.lst (ms.map V.int)))
section
variable {X : Cx}
theorem pe_sortSet {a : Expr} {ta : TE} {p p2 q pos : Pos} (hc : X.calm = true) (hg : Gl X "sorted") (hm : X.mg "sorted" = none) (hg2 : Gl X "set") (hm2 : X.mg "set" = none) (ha : PE X a ta)
    (na : starEach [a] X.env = (false, eval a X.env) :: starEach [] X.env := by rfl) : PE X (.Call (.Name "sorted" p) [.Call (.Name "set" p2) [a] [] q] [] pos) (tSortSet X.K ta) := by
  refine ⟨fun pins s σ H Q I h => ?_⟩
  refine wpAny_Call_Name_kw (ld_blt I hg hm (show bootBuiltins "sorted" = some (.builtin "sorted") by decide +kernel) ?_ (by decide) (by decide))
  refine PyProof.Rows.callWith_builtin1 (PyProof.Rows.args_cons ?_ rfl) rfl rfl
  refine wpAny_Call_Name_kw (ld_blt I hg2 hm2 PyProof.Rows.boot_set ?_ (by decide) (by decide))
  refine PyProof.Rows.callWith_type1 (PyProof.Rows.args_cons (thn (ha.run pins s σ H _ I h) fun v s1 ⟨x, H1, I1, r1, q1⟩ => PyProof.Rows.args_nil ?_) na) na rfl
  obtain ⟨l, ns, rfl, hq, h1, q1⟩ := q1
  cases r1
  obtain ⟨its, r, pl, hz⟩ := I1.list hq
  refine set_of_lst ns (I1.ok.hd hc) pl.isList (by simpa using r.ints) (by unfold scanBound; omega) fun h' tk c hS hk => ?_
  refine PyProof.Rows.args_nil ?_
  have I2 : Inv X pins σ H1 { s1 with heap := h', toks := tk } := I1.kept hk
  refine sorted_of_set hS (I2.ok.hd hc) fun s' p out c ms k g o hp hg' hi hs hm hl => ?_
  have hn : H1 p = none := I2.hok.fresh hp
  have hlen : (ms.map V.int).length ≤ sizeLine := by rw [List.length_map]; exact fits_of_scanBound hl
  have J := I2.call (h' := s'.heap) (g' := s'.gens) (d' := s'.drawn) (t' := s'.toks) (H' := upd H1 p (.lst (ms.map V.int))) (ch := []) (Un.laid k hp hn) (I2.hok.laid k hp ⟨hlen, out, c, vals_of_ints hi, hg'⟩) (by rw [g]; exact I2.bare) (fun _ z => nomatch z)
  obtain ⟨a1, a2, a3, a4, a5⟩ := s'
  cases o
  exact ⟨.ref p, _, J, rfl, q1 ms p hs (fun k => by rw [hm k]; exact decide_eq_true_iff) hn⟩
end
end LSet
namespace DL
open PySem PySem.Spec PyProof.Rows L2
/-- the numbers of a list, rising, each once -/
def ins1 (k : Int) : List Int → List Int
  | [] => [k]
  | x :: l => if k < x then k :: x :: l else if k = x then x :: l else x :: ins1 k l
def usort (l : List Int) : List Int := l.foldr ins1 []
theorem ins1_mem {k z : Int} : ∀ {l : List Int}, z ∈ ins1 k l ↔ z = k ∨ z ∈ l
  | [] => by simp [ins1]
  | x :: l => by
    unfold ins1
    split
    · exact List.mem_cons
    · split
      · rename_i h
        subst h
        simp
      · rw [List.mem_cons, ins1_mem (l := l), List.mem_cons]
        constructor <;> intro h <;> rcases h with h | h | h <;> simp [h]
theorem ins1_lt {k : Int} : ∀ {l : List Int}, l.Pairwise (· < ·) → (ins1 k l).Pairwise (· < ·)
  | [], _ => List.pairwise_singleton _ _
  | x :: l, h => by
    obtain ⟨h1, h2⟩ := List.pairwise_cons.mp h
    unfold ins1
    split
    · rename_i q
      refine List.pairwise_cons.mpr ⟨fun z m => ?_, h⟩
      rcases List.mem_cons.mp m with rfl | m
      · exact q
      · exact Int.lt_trans q (h1 z m)
    · split
      · exact h
      · refine List.pairwise_cons.mpr ⟨fun z m => ?_, ins1_lt h2⟩
        rcases ins1_mem.mp m with rfl | m
        · omega
        · exact h1 z m
theorem usort_mem {z : Int} : ∀ {l : List Int}, z ∈ usort l ↔ z ∈ l
  | [] => Iff.rfl
  | x :: l => by
    show z ∈ ins1 x (usort l) ↔ _
    rw [ins1_mem, usort_mem (l := l), List.mem_cons]
theorem usort_lt : ∀ {l : List Int}, (usort l).Pairwise (· < ·)
  | [] => List.Pairwise.nil
  | x :: l => ins1_lt (usort_lt (l := l))
/-- two rising lists of the same numbers -/
theorem rise_eq : ∀ {l m : List Int}, l.Pairwise (· < ·) → m.Pairwise (· < ·) → (∀ z, z ∈ l ↔ z ∈ m) → l = m
  | [], [], _, _, _ => rfl
  | [], y :: m, _, _, e => nomatch (e y).mpr List.mem_cons_self
  | x :: l, [], _, _, e => nomatch (e x).mp List.mem_cons_self
  | x :: l, y :: m, h, h', e => by
    obtain ⟨a1, a2⟩ := List.pairwise_cons.mp h
    obtain ⟨b1, b2⟩ := List.pairwise_cons.mp h'
    have exy : x = y := by
      rcases List.mem_cons.mp ((e x).mp List.mem_cons_self) with q | q
      · exact q
      · rcases List.mem_cons.mp ((e y).mpr List.mem_cons_self) with r | r
        · exact r.symm
        · have := a1 y r; have := b1 x q; omega
    subst exy
    congr 1
    refine rise_eq a2 b2 fun z => ⟨fun m1 => ?_, fun m1 => ?_⟩
    · rcases List.mem_cons.mp ((e z).mp (List.mem_cons_of_mem _ m1)) with q | q
      · have := a1 z m1; omega
      · exact q
    · rcases List.mem_cons.mp ((e z).mpr (List.mem_cons_of_mem _ m1)) with q | q
      · have := b1 z m1; omega
      · exact q
def dSortSet (da : DE) : DE := fun env μ => (da env μ).bind fun x μ1 => match (lstOf μ1 x).bind intsD with
  | some ns => if ns.length ≤ 4000 then .ok (.lst ((usort ns).map D.int)) μ1 else .stuck
  | none => .stuck
section
variable {X : Cx} {S : Sx} {W : WX} {a : Expr} {da : DE}
theorem repsI {io : List Addr} {F : Hp} : ∀ (ns : List Int), reps S io F (ns.map D.int) (ns.map V.int)
  | [] => .nil
  | _ :: ns => .cons (rep_int.mpr rfl) (repsI ns)
theorem pd_sortSet {p p2 q pos : Pos} (hK : X.K = S.K) (hc : X.calm = true) (hg : Gl X "sorted") (hm : X.mg "sorted" = none) (hg2 : Gl X "set") (hm2 : X.mg "set" = none) (ha : PDE X S W a da)
    (na : starEach [a] X.env = (false, eval a X.env) :: starEach [] X.env := by rfl) : PDE X S W (.Call (.Name "sorted" p) [.Call (.Name "set" p2) [a] [] q] [] pos) (dSortSet da) := by
  obtain ⟨ta, pa, ka⟩ := ha.ex
  refine ⟨_, LSet.pe_sortSet hc hg hm hg2 hm2 pa na, fun env σ c μ Q I en qq => ?_⟩
  refine (show ta σ c.H _ from ?_)
  refine bindE (fun Q' => ka env σ c μ Q' I en) qq fun x μ1 v c1 s1 I1 r1 q1 => ?_
  cases e : (lstOf μ1 x).bind intsD with
  | none => rw [e] at q1; exact q1.elim
  | some ns =>
    rw [e] at q1
    obtain ⟨l, e1, e2⟩ := Option.bind_eq_some_iff.mp e
    have q1 : EQ S W σ c1 Q (if ns.length ≤ 4000 then .ok (.lst ((usort ns).map D.int)) μ1 else .stuck) := q1
    by_cases h : ns.length ≤ 4000
    · rw [if_pos h] at q1
      obtain ⟨p, zs, rfl, k1, k2⟩ := lst_at I1 r1 e1
      have e3 := intsD_at k2 e2
      subst e3
      refine ⟨p, ns, rfl, by rw [hK]; exact sq_of k1, h, fun ms p2 h1 h2 hp => ?_⟩
      have e4 : ms = usort ns := rise_eq h1 usort_lt fun z => by rw [h2 z, usort_mem]
      subst e4
      obtain ⟨I2, s2⟩ := I1.fresh (o := .lst ((usort ns).map V.int)) hp
      exact q1 _ _ s2 I2 (by unfold rep; exact ⟨p2, _, rfl, upd_same, repsI _⟩)
    · rw [if_neg h] at q1; exact q1.elim
end
section
variable {μ : List M} {env : En} {da : DE} {Q : D → List M → Prop} {X : XP} {k : Kt Q X}
def ssO (m : List M) (x : D) : Option D := ((lstOf m x).bind intsD).bind fun ns => if ns.length ≤ 4000 then some (.lst ((usort ns).map D.int)) else none
theorem w_sortSet : WO (dSortSet da env μ) Q X k = WO (da env μ) (fun x m => OP (ssO m x) (fun d => Q d m) ⟨⟩) X ⟨⟩ := by
  unfold dSortSet
  rw [w_bind]
  refine wo_cong fun x m => ?_
  unfold ssO
  cases e : (lstOf m x).bind intsD with
  | none => rfl
  | some ns =>
    by_cases h : ns.length ≤ 4000
    · simp only [Option.bind_some, if_pos h]; rfl
    · simp only [Option.bind_some, if_neg h]; rfl
theorem ss_lst {l : List D} {ns : List Int} (h : intsD l = some ns) (hl : ns.length ≤ 4000) : ssO μ (.lst l) = some (.lst ((usort ns).map D.int)) := by
  show (((some l).bind intsD).bind _) = _
  rw [Option.bind_some, h, Option.bind_some, if_pos hl]
end
end DL
set_option maxHeartbeats 1000000
/-! dicts whose keys are tuples of numbers and None -/
namespace LTup
open PySem PySem.Spec PyProof.Rows L2 DL
def isO : Option Int → Value → Bool
  | none, .none => true
  | some i, v => Value.isInt i v
  | _, _ => false
theorem isO_shape : ∀ {k : Option Int} {v : Value}, isO k v = true → (k = none ∧ v = .none) ∨ ∃ i t, k = some i ∧ v = .int i t
  | none, v, h => by cases v <;> first | exact .inl ⟨rfl, rfl⟩ | cases h
  | some i, v, h => by
    obtain ⟨t, e⟩ := Value.isInt_shape (k := i) (v := v) h
    exact .inr ⟨i, t, rfl, e⟩
theorem isO_of {k : Option Int} {v : Value} (r : RelV (oV k) v) : isO k v = true := by
  cases k with
  | none => cases (show v = Value.none from r); rfl
  | some i =>
    obtain ⟨t, rfl⟩ := (show ∃ t, v = Value.int i t from r)
    simp [isO, Value.isInt]
def oKind (P : Program) (w : World) : PySem.KeyKind P w (Option Int) where
  is := isO
  hash := hashO
  inj := fun v a b ha hb => by
    rcases isO_shape ha with ⟨rfl, rfl⟩ | ⟨i, t, rfl, rfl⟩ <;> rcases isO_shape hb with ⟨rfl, e⟩ | ⟨j, u, rfl, e⟩
    · rfl
    · cases e
    · cases e
    · injection e with e1; rw [e1]
  byValue := fun k v h => by rcases isO_shape h with ⟨rfl, rfl⟩ | ⟨i, t, rfl, rfl⟩ <;> rfl
  pyHash := fun hv h => by
    rcases isO_shape hv with ⟨rfl, rfl⟩ | ⟨i, t, rfl, rfl⟩
    · exact W.pyHash_slot (T := "NoneType") rfl F.slot_NoneType_hash F.entry_NoneType_hash (F.args_NoneType_hash_1 _) (beq_builtin_none _) (.inl rfl) (wpAny_bind (wpAny_pure (wpAny_bind (wpAny_mkInt (wpAny_pure ⟨_, _, rfl, h⟩)))))
    · exact wpAny_pyHash_int h
  eqBool := fun {A E s a b u v Q} hu hv h => by
    rcases isO_shape hu with ⟨rfl, rfl⟩ | ⟨i, t, rfl, rfl⟩ <;> rcases isO_shape hv with ⟨rfl, rfl⟩ | ⟨j, y, rfl, rfl⟩
    · exact SeqAt.EqAt.same _ _ _ _ _ h
    · exact SeqAt.EqAt.none_int j y _ _ _ _ h
    · exact SeqAt.EqAt.int_none i t _ _ _ _ h
    · refine wpAny_eqBool_int ?_
      by_cases e : i = j
      · subst e; simpa using h
      · rw [show (i == j) = false from beq_eq_false_iff_ne.mpr e]
        rwa [decide_eq_false (fun z => e (Option.some.inj z))] at h
  «strs» := fun k x t v h => by rcases isO_shape h with ⟨_, e⟩ | ⟨_, _, _, e⟩ <;> cases e
end LTup
namespace LTup
open PySem PySem.Spec PyProof.Rows L2 DL
/-- what stands at a key -/
def look (kvs : List TKV) (k : List (Option Int)) : Option TKV := kvs.find? fun e => decide (e.1 = k)
def dropT (kvs : List TKV) (k : List (Option Int)) : List TKV := kvs.filter fun e => decide (e.1 ≠ k)
abbrev RX (P : Program) (w : World) := tupleKind (oKind P w)
section
variable {P : Program} {w : World} {kvs : List TKV} {xs : List (List (Option Int) × Addr × Value)} {k : List (Option Int)}
theorem look_rel : ∀ {kvs : List TKV} {xs : List (List (Option Int) × Addr × Value)}, Paired relT kvs xs → (look kvs k = none ∧ atKey xs k = none) ∨ ∃ e x, look kvs k = some e ∧ atKey xs k = some x ∧ e ∈ kvs ∧ e.1 = k ∧ RelV e.2.2 x.2
  | _, _, .nil => .inl ⟨rfl, rfl⟩
  | _, _, .cons (a := p) (b := q) (l₁ := l) (l₂ := m) h t => by
    by_cases e : p.1 = k
    · refine .inr ⟨p, q.2, ?_, ?_, List.mem_cons_self, e, h.2.2⟩
      · unfold look; rw [List.find?_cons_of_pos (by simp [e])]
      · unfold atKey; rw [List.find?_cons_of_pos (by simp [← h.1, e])] <;> rfl
    · have e2 : ¬ q.1 = k := fun z => e (h.1.trans z)
      have z1 : look (p :: l) k = look l k := by unfold look; rw [List.find?_cons_of_neg (by simp [e])]
      have z2 : atKey (q :: m) k = atKey m k := by unfold atKey; rw [List.find?_cons_of_neg (by simp [e2])]
      rw [z1, z2]
      rcases look_rel t with h' | ⟨a, b, h1, h2, h3, h4⟩
      · exact .inl h'
      · exact .inr ⟨a, b, h1, h2, List.mem_cons_of_mem _ h3, h4⟩
theorem drop_rel : ∀ {kvs : List TKV} {xs : List (List (Option Int) × Addr × Value)}, Paired relT kvs xs → Paired relT (dropT kvs k) (withoutH xs k)
  | _, _, .nil => .nil
  | _, _, .cons (a := p) (b := q) (l₁ := l) (l₂ := m) h t => by
    by_cases e : p.1 = k
    · have e2 : q.1 = k := h.1.symm.trans e
      have z1 : dropT (p :: l) k = dropT l k := List.filter_cons_of_neg (by simp [e])
      have z2 : withoutH (q :: m) k = withoutH m k := List.filter_cons_of_neg (by simp [e2])
      rw [z1, z2]; exact drop_rel t
    · have e2 : ¬ q.1 = k := fun z => e (h.1.trans z)
      have z1 : dropT (p :: l) k = p :: dropT l k := List.filter_cons_of_pos (by simp [e])
      have z2 : withoutH (q :: m) k = q :: withoutH m k := List.filter_cons_of_pos (by simp [e2])
      rw [z1, z2]; exact .cons h (drop_rel t)
theorem pair_snoc {α β : Type} {R : α → β → Prop} {a : α} {b : β} : ∀ {l : List α} {m : List β}, Paired R l m → R a b → Paired R (l ++ [a]) (m ++ [b])
  | _, _, .nil, h => .cons h .nil
  | _, _, .cons h t, h' => .cons h (pair_snoc t h')
theorem pairR {α β : Type} {R : α → β → Prop} : ∀ {l : List α} {m : List β} {j : Nat} {x : β}, Paired R l m → m[j]? = some x → ∃ y, l[j]? = some y ∧ R y x
  | _, _, _, _, .nil, h => by simp at h
  | _, _, 0, _, .cons r _, h => by
    obtain rfl := Option.some.inj h
    exact ⟨_, rfl, r⟩
  | _, _, j + 1, _, .cons _ t, h => pairR (j := j) t h
/-- a key stands as a tuple -/
def KeyAt (K : PySem.W.Frag) (H : Hp) (e : List (Option Int) × Addr) : Prop := SqT K H e.2 (e.1.map oV)
theorem items_of : ∀ {k : List (Option Int)} {us : List Value}, Vals (k.map oV) us → ItemsAre (oKind P w) k us
  | [], _, .nil => .nil
  | _ :: _, _, .cons r t => .cons (isO_of r) (items_of t)
end
section
variable {X : Cx} {pins : List (Addr × Obj)} {σ : L2.St} {H : Hp} {s : Shared} {a : Addr} {kvs : List TKV}
theorem key_in (I : Inv X pins σ H s) {e : List (Option Int) × Addr} (h : KeyAt X.K H e) : IsTupleKey (oKind X.prog X.w) s.heap e.1 e.2 := by
  obtain ⟨its, r, ⟨o, h1, h2, n, h3⟩, _⟩ := I.tuple h
  exact ⟨o, its.toArray, n, h1, h2, h3, by simpa using items_of r⟩
theorem raw_in (R : RawT s.heap a kvs) (ks : ∀ e ∈ kvs, IsTupleKey (oKind X.prog X.w) s.heap e.1 e.2.1) :
    ∃ xs, Paired relT kvs xs ∧ s.heap.DictOfH (RX X.prog X.w) a xs := by
  obtain ⟨_, _, xs, pr, o, es, ep, h1, h2, h3, h4, h5⟩ := R
  refine ⟨xs, pr, o, es, ep, h1, h2, h3, h4, fun x hx => ?_, h5⟩
  obtain ⟨i, hi, e⟩ := List.getElem_of_mem hx
  obtain ⟨y, hy, r⟩ := pairR pr (List.getElem?_eq_getElem hi)
  rw [e] at r
  have q := ks y (List.mem_of_getElem? hy)
  rw [r.1, r.2.1] at q
  exact q
theorem raw_ok {xs : List (List (Option Int) × Addr × Value)} {h : Heap} {P : Program} {w : World} (z : kvs.length ≤ sizeLine) (hd : (a == sysModules) = false) (pr : Paired relT kvs xs) (d : h.DictOfH (RX P w) a xs) : RawT h a kvs := by
  obtain ⟨o, es, ep, h1, h2, h3, h4, _, h5⟩ := d
  exact ⟨z, hd, xs, pr, o, es, ep, h1, h2, h3, h4, h5⟩
theorem dic_ok {h : Heap} {P : Program} {w : World} {H' : Hp} (R : RawT h a kvs) : ObjOk P w H' h a (dicT a kvs) := by
  refine ⟨R, ?_, fun h1 h2 x k => ?_⟩
  · obtain ⟨_, _, _, _, o, _, _, e, _⟩ := R; exact ⟨o, e⟩
  · obtain ⟨z, y, xs, pr, o, es, ep, e, r⟩ := x
    exact ⟨z, y, xs, pr, o, es, ep, k o e, r⟩
theorem dic_get (I : Inv X pins σ H s) (h : H a = some (dicT a kvs)) : RawT s.heap a kvs := (I.hok a _ h).1
/-- d.setdefault(k, v) -/
def rSetd (K : PySem.W.Frag) : V → List V → Hp → VK → Prop := fun x vs H Q => ∃ (a : Addr) (kvs : List TKV) (k : List (Option Int)) (b : Addr) (v : V), x = .ref a ∧ vs = [.ref b, v] ∧ H a = some (dicT a kvs) ∧ KeyAt K H (k, b) ∧ (∀ e ∈ kvs, KeyAt K H (e.1, e.2.1)) ∧ kvs.length < sizeLine ∧
  (∀ e, look kvs k = some e → Q e.2.2 H) ∧ (look kvs k = none → Q v (upd H a (dicT a (kvs ++ [(k, b, v)]))))
theorem mt_setd (hu : X.A.units + 1 < cLine) : MtR X "dict.setdefault" (rSetd X.K) := by
  intro pins s σ H x vs v us Q I rx rvs h
  obtain ⟨a, kvs, k, b, dv, rfl, rfl, ha, hk, hks, hz, q1, q2⟩ := h
  cases rx
  obtain ⟨u1, u2, rfl, r1, r2⟩ := vals2 rvs
  cases r1
  have R := dic_get I ha
  obtain ⟨xs, pr, dd⟩ := raw_in R fun e he => key_in I (hks e he)
  have hl : xs.length = kvs.length := (Paired.length pr).symm
  have hd := R.2.1
  refine call_setdefault_heap (knd := RX X.prog X.w) (k := k) (tupleKind_room_in1 hu) (key_in I hk) hd dd (fun p hp => ?_) (fun hn h' dd' hs => ?_) (by omega)
  · rcases look_rel (k := k) pr with ⟨_, z⟩ | ⟨e, x, z1, z2, _, _, z3⟩
    · rw [z] at hp; cases hp
    · rw [z2] at hp; cases hp
      exact ⟨e.2.2, H, I.tok _, z3, q1 e z1⟩
  · rcases look_rel (k := k) pr with ⟨z, _⟩ | ⟨e, x, z1, z2, _⟩
    · rw [storedH_new hn] at dd'
      have R' : RawT h' a (kvs ++ [(k, b, dv)]) := raw_ok (by rw [List.length_append]; exact hz) hd (pair_snoc pr ⟨rfl, rfl, r2⟩) dd'
      have I2 := d_write (t' := s.toks + (RX X.prog X.w).draws k) I (by rw [ha]; exact True.intro) hs (by obtain ⟨o, _, _, e, _⟩ := dd'; exact ⟨o, e⟩) (dic_ok (P := X.prog) (w := X.w) (H' := upd H a (dicT a (kvs ++ [(k, b, dv)]))) R')
      exact ⟨dv, _, I2, r2, q2 z⟩
    · rw [z2] at hn; cases hn
/-- d.pop(k), the key there -/
def rPopk (K : PySem.W.Frag) : V → List V → Hp → VK → Prop := fun x vs H Q => ∃ (a : Addr) (kvs : List TKV) (k : List (Option Int)) (b : Addr) (e : TKV), x = .ref a ∧ vs = [.ref b] ∧ H a = some (dicT a kvs) ∧ KeyAt K H (k, b) ∧ (∀ e ∈ kvs, KeyAt K H (e.1, e.2.1)) ∧
  look kvs k = some e ∧ Q e.2.2 (upd H a (dicT a (dropT kvs k)))
theorem mt_popk (hu : X.A.units + 1 < cLine) : MtR X "dict.pop" (rPopk X.K) := by
  intro pins s σ H x vs v us Q I rx rvs h
  obtain ⟨a, kvs, k, b, e, rfl, rfl, ha, hk, hks, he, q⟩ := h
  cases rx
  obtain ⟨u1, rfl, r1⟩ := rvs.one
  cases r1
  have R := dic_get I ha
  obtain ⟨xs, pr, dd⟩ := raw_in R fun e he => key_in I (hks e he)
  have hl : xs.length = kvs.length := (Paired.length pr).symm
  have hd := R.2.1
  rcases look_rel (k := k) pr with ⟨z, _⟩ | ⟨e2, x, z1, z2, _, _, z3⟩
  · rw [z] at he; cases he
  · rw [z1] at he; cases he
    refine call_pop_heap (knd := RX X.prog X.w) (k := k) (p := x) (.inl rfl) (PySem.F.args_dict_pop_2 _ _) (tupleKind_room_in1 hu) (key_in I hk) hd dd z2 (fun h' dd' hs => ?_) (by rw [hl]; exact R.1)
    have R' : RawT h' a (dropT kvs k) := raw_ok (Nat.le_trans (List.length_filter_le _ _) R.1) hd (drop_rel pr) dd'
    have I2 := d_write (t' := s.toks + (RX X.prog X.w).draws k) I (by rw [ha]; exact True.intro) hs (by obtain ⟨o, _, _, e, _⟩ := dd'; exact ⟨o, e⟩) (dic_ok (P := X.prog) (w := X.w) (H' := upd H a (dicT a (dropT kvs k))) R')
    exact ⟨_, _, I2, z3, q⟩
/-- o.m(e, ..), o such a dict -/
def tDM (r : V → List V → Hp → VK → Prop) (to : TE) (t : TA) : TE := fun σ H Q => to σ H fun x H1 => (∃ a kvs, x = V.ref a ∧ H1 a = some (dicT a kvs)) ∧ t σ H1 fun vs H2 => r x vs H2 Q
theorem pe_dm {o e : Expr} {es : List Expr} {to : TE} {t : TA} {apos cpos : Pos} {name : Str} {id : String} {r : V → List V → Hp → VK → Prop} (slot : Slot "dict" name id) (hty : typeOf (.builtin id) = pure (.type "method_descriptor")) (hm : MtR X id r) (ho : PE X o to) (ha : PA X (e :: es) t)
    (hbase : attributeBase o name X.env (eval o X.env) = eval o X.env := by rfl)
    (hfew : ((backTo cpos (starEach (e :: es) X.env)).all (fun x => !x.1) && ((backToKw cpos (keywordEach [] X.env)).all (fun x => x.1.isSome) && decide ((e :: es).length + ([] : List Keyword).length + (if ([] : List Keyword).isEmpty then 0 else 1) < 30))) = true := by rfl)
    (hline : (apos.endLine == cpos.line) = true := by rfl) (hs : starEach (e :: es) X.env = (false, eval e X.env) :: starEach es X.env := by rfl) (hpl : (backTo cpos (starEach es X.env)).any (·.1) = false := by rfl) :
    PE X (.Call (.Attribute o name apos) (e :: es) [] cpos) (tDM r to t) := by
  refine ⟨fun pins s σ H Q I h => ?_⟩
  refine wpAny_Call_method_late hbase (by rw [Bool.and_assoc]; exact hfew) hline rfl (thn (ho.run pins s σ H _ I h) fun v s1 ⟨x, H1, I1, r1, ty, q1⟩ => ?_)
  obtain ⟨a, kvs, rfl, hka⟩ := ty
  cases r1
  obtain ⟨_, _, xs, _, ob, es', ep, g1, g2, g3, _⟩ := dic_get I1 hka
  refine ⟨"dict", id, F.plainAttrs_dict, slot, hty, ⟨ob, g1, g2.1⟩, fun b eb => ?_, ?_⟩
  · injection eb with eb; subst eb; exact ⟨ob, g1, g2.2.1⟩
  have hA := ha.run cpos pins s1 σ H1 _ I1 q1
  rw [hs] at hA ⊢
  refine Calls.callWith_builtin (by show (false || (backTo cpos (starEach es X.env)).any (·.1)) = false; rw [hpl] <;> rfl) (Calls.evalArgs_plain ?_)
  exact thn hA fun us s2 ⟨vs, H2, I2, r2, q2⟩ => hm pins s2 σ H2 (.ref a) vs (.ref a) us Q I2 rfl r2 q2
end
end LTup
set_option maxHeartbeats 2000000
/-! list(d.items()), d any dict, by its raw entries -/
namespace LRaw
open PySem PySem.W PySem.Calls PySem.Spec PyProof.Rows
section
variable {P : Program} {w : World} {A : Around} {E : Value → Shared → Prop} {s : Shared} {es : Array DictEntry} {ep : Nat} {I S d r : Addr}
theorem step_item {i : Nat} {Q : Option Value → Shared → Prop} (x : KdxSt s.heap I d S i es.size ep) (hS : S < s.heap.objs.size) (m : s.heap.DictRaw d es ep) (hi : i < es.size)
    (q : ∀ h', KdxSt h' I d S (i + 1) es.size ep → h'.get? s.heap.objs.size = some { cls := .type "tuple", data := .seq #[es[i].key, es[i].val] } → (∀ b o, b ≠ I → s.heap.get? b = some o → h'.get? b = some o) → Q (some (.ref s.heap.objs.size)) { s with heap := h' }) :
    wpAny (model P w) A (pyNext (.ref I)) Q E s := by
  rcases x with ⟨rfl, k, v, x⟩ | ⟨k, v, a, f, oa, x, e1, e2, e3⟩
  · exact wpAny_pyNext_items_item_raw x m hi fun h' y t _ z => q h' (.inr ⟨_, _, _, false, _, y, t, Nat.ne_of_gt (Heap.lt_size x), Nat.ne_of_gt hS⟩) t z
  · exact wpAny_pyNext_items_item_out_raw x e1 e2 m hi fun h' y t _ z => q h' (.inr ⟨k, v, a, true, oa, y, z a oa e2 e1, e2, e3⟩) t z
theorem step_end {i : Nat} {Q : Option Value → Shared → Prop} (hh : A.handled = none) (x : KdxSt s.heap I d S i es.size ep) (m : s.heap.DictRaw d es ep) (hi : es.size ≤ i)
    (q : ∀ h', Heap.ExtBut I s.heap h' → Q none { s with heap := h' }) : wpAny (model P w) A (pyNext (.ref I)) Q E s := by
  rcases x with ⟨rfl, k, v, x⟩ | ⟨k, v, a, f, oa, x, _⟩
  · exact wpAny_pyNext_items_end_raw hh x m hi q
  · exact wpAny_pyNext_items_end_out_raw hh x m hi q
/-- the pairs that were laid, in their order -/
structure Laid (es : Array DictEntry) (lo : Addr) (h : Heap) (as : List Addr) : Prop where
  up : as.Pairwise (· < ·)
  hi : ∀ a ∈ as, lo < a
  at_ : ∀ (j : Nat) (a : Addr), as[j]? = some a → ∃ e, es[j]? = some e ∧ h.get? a = some { cls := .type "tuple", data := .seq #[e.key, e.val] }
theorem Laid.lt {lo : Addr} {h : Heap} {as : List Addr} (g : Laid es lo h as) {a : Addr} (m : a ∈ as) : a < h.objs.size := by
  obtain ⟨j, e⟩ := List.mem_iff_getElem?.mp m
  obtain ⟨_, _, e⟩ := g.at_ j a e
  exact Heap.lt_size e
abbrev lstO (acc : Array Value) (c : Nat) : Obj := { cls := .type "list", dict := none, data := .seq acc c, slots := #[] }
abbrev Fin1 (es : Array DictEntry) (s : Shared) (S lo : Addr) (R : Result → Shared → Prop) (res : Value) (old : Heap) : Prop :=
  ∀ h' tk acc c as, (∀ b o, b ≠ S → old.get? b = some o → h'.get? b = some o) → h'.get? S = some (lstO acc c) → as.length = es.size → Laid es lo h' as → acc.toList = as.map Value.ref → R (.ok (.ret res)) { s with heap := h', toks := tk }
theorem ext_loop {R : Result → Shared → Prop} {old : Heap} (hh : A.handled = none) (h1 : S < I) (h2 : d ≠ S) (h3 : d ≠ I) (h4 : es.size ≤ sizeLine) (h5 : old.get? I = none) (res : Value) (fin : Fin1 es s S I R res old) :
    ∀ (n i : Nat) (h : Heap) (tk c : Nat) (acc : Array Value) (as : List Addr), es.size - i = n → i ≤ es.size → KdxSt h I d S i es.size ep → h.DictRaw d es ep → (∀ b o, b ≠ S → old.get? b = some o → h.get? b = some o) →
      h.get? S = some (lstO acc c) → acc.toList = as.map Value.ref → as.length = i → Laid es I h as → I < h.objs.size → codeAny (model P w) A (.builtin "list.extend.loop" ⟨[.ref S, .ref I, res], []⟩) R { s with heap := h, toks := tk } := by
  have ne : S ≠ I := Nat.ne_of_lt h1
  have nI : ∀ b o, old.get? b = some o → b ≠ I := fun b o e z => by rw [z, h5] at e; cases e
  intro n
  induction n with
  | zero =>
    intro i h tk c acc as e1 e2 st m kp eS ea el G lI
    refine codeAny_builtin PySem.F.entry_extend_loop ?_
    rw [Around.under_plainId PySem.F.plain_extend_loop _]
    show wpAny _ A.in1 (pyNext (.ref I) >>= _) _ _ _
    refine wpAny_bind (step_end (s := { s with heap := h, toks := tk }) (A := A.in1) hh st m (by omega) fun h' x => ?_)
    refine wpAny_pure (fin h' tk acc c as (fun b o z e => x b o (nI b o e) (kp b o z e)) (x S _ ne eS) (by omega) ⟨G.up, G.hi, fun j a e => ?_⟩ ea)
    obtain ⟨en, z1, z2⟩ := G.at_ j a e
    exact ⟨en, z1, x a _ (Nat.ne_of_gt (G.hi a (List.mem_of_getElem? e))) z2⟩
  | succ n ih =>
    intro i h tk c acc as e1 e2 st m kp eS ea el G lI
    have lt : i < es.size := by omega
    have sz : acc.size = i := by rw [← Array.length_toList, ea, List.length_map, el]
    have lS : S < h.objs.size := Heap.lt_size eS
    refine codeAny_builtin PySem.F.entry_extend_loop ?_
    rw [Around.under_plainId PySem.F.plain_extend_loop _]
    show wpAny _ A.in1 (pyNext (.ref I) >>= _) _ _ _
    refine wpAny_bind (step_item (s := { s with heap := h, toks := tk }) (S := S) st lS m lt fun h' st' t z => ?_)
    dsimp only at t z ⊢
    have up : ∀ b o, b ≠ S → h'.get? b = some o → (h'.update S (Obj.mapSeq (·.push (Value.ref h.objs.size)))).get? b = some o := fun b o hb e => (Heap.get?_update_other _ _ (Ne.symm hb)).trans e
    have nS := up _ _ (Nat.ne_of_gt lS) t
    show wpAny _ A.in1 (updateSeq S (·.push (Value.ref h.objs.size)) >>= _) _ _ _
    refine wpAny_bind (wpAny_updateSeq (z S _ ne eS) rfl (wpAny_pure ⟨plainId_quiet PySem.F.plain_extend_loop _, ih (i + 1) _ tk _ (acc.push (Value.ref h.objs.size)) (as ++ [h.objs.size]) (by omega) lt (st'.keep up (Ne.symm ne))
      (m.at fun o e => up d o h2 (z d o h3 e)) (fun b o hb e => up b o hb (z b o (nI b o e) (kp b o hb e))) (Heap.get?_update_self _ (z S _ ne eS) rfl) (by rw [Array.toList_push, ea, List.map_append]; rfl) (by rw [List.length_append, el]; rfl)
      ⟨List.pairwise_append.mpr ⟨G.up, List.pairwise_singleton _ _, fun a ha b hb => by rw [List.mem_singleton.mp hb]; exact G.lt ha⟩, fun a ha => ?_, fun j b hj => ?_⟩ (Nat.lt_trans lI (Heap.lt_size nS))⟩) (by rw [sz]; omega) (by show (acc.push (Value.ref h.objs.size)).size ≤ sizeLine + 1; rw [Array.size_push, sz]; omega))
    · rcases List.mem_append.mp ha with ha | ha
      · exact G.hi a ha
      · exact List.mem_singleton.mp ha ▸ lI
    · by_cases hj1 : j < as.length
      · rw [List.getElem?_append_left hj1] at hj
        obtain ⟨en, z1, z2⟩ := G.at_ j b hj
        have hb := G.hi b (List.mem_of_getElem? hj)
        exact ⟨en, z1, up b _ (Nat.ne_of_gt (Nat.lt_trans h1 hb)) (z b _ (Nat.ne_of_gt hb) z2)⟩
      · have hj2 := (List.getElem?_eq_some_iff.mp hj).1
        rw [List.length_append] at hj2
        have ej : j = as.length := by
          have : [h.objs.size].length = 1 := rfl
          omega
        subst ej
        have hb : h.objs.size = b := by simpa using hj
        subst hb
        exact ⟨es[i], by rw [el]; exact Array.getElem?_eq_getElem lt, nS⟩
theorem ext_items {R : Result → Shared → Prop} (hh : A.handled = none) (hv : s.heap.IsItemsView r d) (m : s.heap.DictRaw d es ep) (h1 : S ≠ r) (h2 : d ≠ S) (res : Value) (c0 : Nat) (eS : s.heap.get? S = some { cls := .type "list", data := .seq #[] c0 })
    (fin : Fin1 es s S s.heap.objs.size R res s.heap) (hn : es.size ≤ sizeLine) : wpAny (model P w) A.in1 (Builtin.List.listExtendWith (.ref S) (.ref r) res)
      (fun fin s' => match fin with | .done f => R (.ok f) s' | .again c' => c'.quiet = true ∧ codeAny (model P w) A c' R s') (fun e s' => R (.error e) s') s := by
  have lS : S < s.heap.objs.size := Heap.lt_size eS
  have ld : d < s.heap.objs.size := let ⟨_, e, _⟩ := m; Heap.lt_size e
  have go : ∀ (h : Heap) (c1 tk : Nat), (∀ b o, b ≠ S → (s.heap.push { cls := .type "dict_itemiterator", data := .fields #[.none, .bool false, .ref d, .int 0 0, .int es.size 0, .int ep 0, .none, .none] }).get? b = some o → h.get? b = some o) →
      h.get? S = some { cls := .type "list", data := .seq #[] c1 } → codeAny (model P w) A (.builtin "list.extend.loop" ⟨[.ref S, .ref s.heap.objs.size, res], []⟩) R { s with heap := h, toks := tk } := by
    intro h c1 tk kp e
    have eI := kp s.heap.objs.size _ (Nat.ne_of_gt lS) (Heap.get?_push_size _ rfl)
    exact ext_loop (s := s) (old := s.heap) hh lS h2 (Nat.ne_of_lt ld) hn (Heap.get?_none_of_le (Nat.le_refl _)) res fin es.size 0 h tk c1 #[] [] rfl (Nat.zero_le _) (.inl ⟨rfl, .none, .none, eI⟩) (m.at fun o e => kp d o h2 (Heap.get?_push_of_some _ e))
      (fun b o hb e => kp b o hb (Heap.get?_push_of_some _ e)) e rfl rfl ⟨.nil, (fun _ z => nomatch z), (fun j a z => by simp at z)⟩ (Heap.lt_size eI)
  unfold Builtin.List.listExtendWith
  refine wpAny_bind (wpAny_typeOf (T := "dict_items") hv.typeIs ?_)
  have g1 : Builtin.List.listSameRef (.ref S) (.ref r) = false := by simp [Builtin.List.listSameRef, h1]
  have g2 : (Value.type "dict_items" == Value.type "list") = false := by decide
  have g3 : (Value.type "dict_items" == Value.type "tuple") = false := by decide
  simp only [g1, g2, g3, Bool.or_false, Bool.false_eq_true, if_false]
  refine wpAny_bind (wpAny_pyIter_items_raw hv m ?_)
  have e1 := Heap.get?_push_of_some { cls := .type "dict_itemiterator", data := .fields #[.none, .bool false, .ref d, .int 0 0, .int es.size 0, .int ep 0, .none, .none] } eS
  refine wpAny_bind (wpAny_holding (kdx_hint (let ⟨o, ho, hc, _⟩ := hv; ⟨o, Heap.get?_push_of_some _ ho, hc⟩) ?_))
  refine wpAny_ite_split (fun _ => ?_) (fun _ => wpAny_pure ⟨plainId_quiet PySem.F.plain_extend_loop _, go _ c0 _ (fun b o _ e => e) e1⟩)
  refine wpAny_bind (wpAny_rule ?_)
  refine wpAny_bind ?_
  show wpAny _ _ (updateSeq S (·.push .none) >>= fun _ => updateSeq S (·.pop)) _ _ _
  refine wpAny_bind (wpAny_updateSeq e1 rfl ?_)
  have e2 := Heap.get?_update_self (Obj.mapSeq (·.push Value.none)) e1 rfl
  refine wpAny_updateSeq (hz := by seq_fits) e2 rfl ?_
  refine wpAny_pure ⟨plainId_quiet PySem.F.plain_extend_loop _, go _ _ _ (fun b o hb e => ?_) (Heap.get?_update_self (Obj.mapSeq (·.pop)) e2 rfl)⟩
  exact (Heap.get?_update_other _ _ (Ne.symm hb)).trans ((Heap.get?_update_other _ _ (Ne.symm hb)).trans e)
theorem list_items {Q : Value → Shared → Prop} (hh : A.handled = none) (hv : s.heap.IsItemsView r d) (m : s.heap.DictRaw d es ep) (hn : es.size ≤ sizeLine)
    (q : ∀ h' tk acc c as, (∀ b o, s.heap.get? b = some o → h'.get? b = some o) → h'.get? s.heap.objs.size = some (lstO acc c) → as.length = es.size → Laid es s.heap.objs.size h' as → acc.toList = as.map Value.ref → Q (.ref s.heap.objs.size) { s with heap := h', toks := tk }) :
    wpAny (model P w) A (call (.type "list") [.ref r]) Q E s := by
  refine callType_codes (Q₁ := fun x s1 => x = .ref s.heap.objs.size ∧ s1 = { s with heap := s.heap.push { cls := .type "list", data := .seq #[] } }) PySem.F.called_list (PySem.F.typeCall_list_1 _) PySem.F.entry_list_init (code_list_new _ ⟨rfl, rfl⟩) fun x s1 e1 => ?_
  obtain ⟨rfl, rfl⟩ := e1
  have eS : (s.heap.push { cls := .type "list", data := .seq #[] }).get? s.heap.objs.size = some { cls := .type "list", data := .seq #[] } := Heap.get?_push_size _ rfl
  have lr : r < s.heap.objs.size := let ⟨_, e, _⟩ := hv; Heap.lt_size e
  have ld : d < s.heap.objs.size := let ⟨_, e, _⟩ := m; Heap.lt_size e
  have sz : (s.heap.push { cls := .type "list", data := .seq #[] }).objs.size = s.heap.objs.size + 1 := Heap.size_push ..
  refine ⟨⟨_, eS, rfl⟩, PySem.F.args_list_init_2 _ _, ?_⟩
  show wpAny _ _ (do let old ← Builtin.List.listItems (.ref s.heap.objs.size); Builtin.List.listUpdate (.ref s.heap.objs.size) (fun _ => #[]); letGo old.toList.reverse; Builtin.List.listExtendWith (.ref s.heap.objs.size) (.ref r) .none) _ _ _
  refine wpAny_bind ?_
  unfold Builtin.List.listItems
  refine wpAny_bind (wpAny_seqItems eS rfl (wpAny_pure ?_))
  show wpAny _ _ (updateSeq s.heap.objs.size (fun _ => #[]) >>= fun _ => letGo (#[] : Array Value).toList.reverse >>= fun _ => Builtin.List.listExtendWith (.ref s.heap.objs.size) (.ref r) .none) _ _ _
  refine wpAny_bind (wpAny_updateSeq eS rfl ?_)
  have e2 := Heap.get?_update_self (Obj.mapSeq (fun _ => (#[] : Array Value))) eS rfl
  have oth : ∀ b o, b ≠ s.heap.objs.size → (s.heap.push { cls := .type "list", data := .seq #[] }).get? b = some o → ((s.heap.push { cls := .type "list", data := .seq #[] }).update s.heap.objs.size (Obj.mapSeq (fun _ => (#[] : Array Value)))).get? b = some o :=
    fun b o hb e => (Heap.get?_update_other _ _ (Ne.symm hb)).trans e
  have old : ∀ b o, s.heap.get? b = some o → ((s.heap.push { cls := .type "list", data := .seq #[] }).update s.heap.objs.size (Obj.mapSeq (fun _ => (#[] : Array Value)))).get? b = some o :=
    fun b o e => oth b o (Nat.ne_of_lt (Heap.lt_size e)) (Heap.get?_push_of_some _ e)
  have sz2 : ((s.heap.push { cls := .type "list", data := .seq #[] }).update s.heap.objs.size (Obj.mapSeq (fun _ => (#[] : Array Value)))).objs.size = s.heap.objs.size + 1 := by rw [Heap.size_update, sz]
  refine wpAny_bind (wpAny_letGo ?_)
  refine ext_items (A := A.in1) hh (let ⟨o, ho, x⟩ := hv; ⟨o, old r o ho, x⟩) (m.at fun o e => old d o e) (Nat.ne_of_gt lr) (Nat.ne_of_lt ld) .none _ e2 (fun h' tk acc c as kp e el G ea => ?_) hn
  refine ⟨rfl, q h' tk acc c as (fun b o z => kp b o (Nat.ne_of_lt (Heap.lt_size z)) (old b o z)) e el ⟨G.up, fun a ha => ?_, G.at_⟩ ea⟩
  exact Nat.lt_trans (Nat.lt_of_lt_of_le (Nat.lt_succ_self _) (Nat.le_of_eq sz2.symm)) (G.hi a ha)
end
end LRaw
set_option maxHeartbeats 1000000
namespace LTup
open PySem PySem.Spec PyProof.Rows L2 DL
/-- list(d.items()) -/
def rItT (x : V) (H : Hp) (Q : VK) : Prop := ∃ (a : Addr) (kvs : List TKV), x = V.ref a ∧ H a = some (dicT a kvs) ∧
  ∀ (H' : Hp) (p : Addr) (ts : List Addr), (∀ b o, H b = some o → H' b = some o) → H p = none → (∀ t ∈ ts, H t = none) → H' p = some (.lst (ts.map V.ref)) → ts.length = kvs.length →
    (∀ (j : Nat) (t : Addr) (q : TKV), ts[j]? = some t → kvs[j]? = some q → H' t = some (.tup [.ref q.2.1, q.2.2])) → Q (.ref p) H'
section
variable {X : Cx} {e : Expr} {te : TE} {p apos cpos pos : Pos}
theorem raw_es {h : Heap} {a : Addr} {kvs : List TKV} (R : RawT h a kvs) : (a == sysModules) = false ∧ ∃ es ep, h.DictRaw a es ep ∧ es.size = kvs.length ∧ kvs.length ≤ sizeLine ∧ ∀ (j : Nat) (en : DictEntry), es[j]? = some en → ∃ q, kvs[j]? = some q ∧ en.key = .ref q.2.1 ∧ RelV q.2.2 en.val := by
  obtain ⟨z, hd, xs, pr, o, es, ep, h1, h2, h3, h4, _⟩ := R
  have hl : es.size = xs.length := by rw [← Array.length_toList, h4, List.length_map]
  refine ⟨hd, es, ep, ⟨o, h1, h2, h3⟩, by rw [hl]; exact (Paired.length pr).symm, z, fun j en e => ?_⟩
  have e1 : es.toList[j]? = some en := by rw [Array.getElem?_toList]; exact e
  rw [h4, List.getElem?_map] at e1
  obtain ⟨x, e2, e3⟩ := Option.map_eq_some_iff.mp e1
  obtain ⟨q, e4, r⟩ := pairR pr e2
  subst e3
  exact ⟨q, e4, by show Value.ref x.2.1 = _; rw [r.2.1], r.2.2⟩
theorem pe_itT (hc : X.calm = true) (he : PE X e te) (hg : Gl X "list") (hm : X.mg "list" = none) (hbase : attributeBase e "items" X.env (eval e X.env) = eval e X.env := by rfl) (hline : (apos.endLine == cpos.line) = true := by rfl)
    (hs : starEach [.Call (.Attribute e "items" apos) [] [] cpos] X.env = (false, eval (.Call (.Attribute e "items" apos) [] [] cpos) X.env) :: starEach [] X.env := by rfl) :
    PE X (.Call (.Name "list" p) [.Call (.Attribute e "items" apos) [] [] cpos] [] pos) (fun σ H Q => te σ H fun x H1 => rItT x H1 Q) := by
  refine ⟨fun pins s σ H Q I hq => ?_⟩
  refine wpAny_Call_Name_kw (ld_blt I hg hm (show bootBuiltins "list" = some (.type "list") by decide +kernel) ?_ (by decide) (by decide))
  refine PyProof.Rows.callWith_type1 ?_ hs rfl
  rw [hs]
  show wpAny _ _ (spliced ((false, eval (.Call (.Attribute e "items" apos) [] [] cpos) X.env) :: backTo pos (starEach [] X.env))) _ _ s
  refine Calls.spliced_cons ?_
  refine wpAny_Call_method (T := "dict") (id := "dict.items") hbase rfl hline F.plainAttrs_dict F.slot_dict_items F.type_dict_items (thn (he.run pins s σ H _ I hq) fun u s1 ⟨x, H1, I1, rx, a, kvs, ex, hd, q⟩ => ?_)
  subst ex
  obtain rfl : u = Value.ref a := rx
  obtain ⟨hs0, es, ep, m, hsz, hz, hen⟩ := raw_es (dic_get I1 hd)
  have m' := m
  obtain ⟨ob, g1, g2, g3⟩ := m'
  refine ⟨⟨ob, g1, g2.1⟩, fun b eb => ?_, ?_⟩
  · injection eb with eb; subst eb; exact ⟨ob, g1, g2.2.1⟩
  have I2 : Inv X pins σ H1 { s1 with heap := s1.heap.push { cls := .type "dict_items", data := .fields #[.ref a] } } := I1.kept (t' := s1.toks) fun b o q => Heap.get?_push_of_some _ q
  show wpAny _ _ (callWith cpos (.builtin "dict.items") [.ref a] [] []) _ X.xe s1
  refine method_meetsIn F.slot_dict_items F.entry_dict_items rfl (PySem.evalArgs_none ⟨rfl, ⟨ob, g1, g2.1⟩, F.args_dict_items_1 _, _, meets_dict_items_raw a hs0, ⟨es, ep, m⟩, ?_⟩)
  refine Calls.spliced_nil ?_
  refine LRaw.list_items (I1.ok.hd hc) ⟨_, Heap.get?_push_size _ rfl, rfl, rfl⟩ (m.at fun o q => Heap.get?_push_of_some _ q) (by rw [hsz]; exact hz) fun h' tk acc c as hk hS hl hG hacc => ?_
  have sz : (s1.heap.push { cls := .type "dict_items", data := .fields #[.ref a] }).objs.size = s1.heap.objs.size + 1 := Heap.size_push ..
  have newS := I2.hok.fresh (Nat.le_refl _)
  have new : ∀ t ∈ as, H1 t = none := fun t ht => I2.hok.fresh (Nat.le_of_lt (hG.hi t ht))
  have nd : as.Nodup := List.Pairwise.imp (fun {a b} (h : a < b) => Nat.ne_of_lt h) hG.up
  have J : Inv X pins σ (upd H1 _ (.lst (as.map V.ref))) { s1 with heap := h', toks := tk } := I2.laid (t' := tk) hk (Nat.le_refl _) ⟨by rw [List.length_map, hl, hsz]; exact hz, acc.toList, c, by rw [hacc]; exact LiI.vals_refs as, by rw [Array.toArray_toList]; exact hS⟩
  obtain ⟨H2, J2, k2, q2⟩ := L2.DX.takeT (P := fun t vs => ∀ (j : Nat) (q : TKV), as[j]? = some t → kvs[j]? = some q → vs = [.ref q.2.1, q.2.2]) I2 as _ J nd fun t ht => by
    have lt := hG.hi t ht
    refine ⟨Nat.le_of_lt lt, by rw [upd_ne (Nat.ne_of_gt lt)]; exact new t ht, ?_⟩
    obtain ⟨j, ej⟩ := List.mem_iff_getElem?.mp ht
    obtain ⟨en, e1, e2⟩ := hG.at_ j t ej
    obtain ⟨q0, e3, e4, e5⟩ := hen j en e1
    refine ⟨[.ref q0.2.1, q0.2.2], fun j' q' h1 h2 => ?_, fun H2 => ⟨by show 2 ≤ sizeLine; decide, [en.key, en.val], .cons e4 (.cons e5 .nil), ⟨_, e2, rfl, _, rfl⟩⟩⟩
    have : j' = j := (List.getElem?_inj (List.getElem?_eq_some_iff.mp h1).1 nd).mp (h1.trans ej.symm)
    subst this
    rw [e3] at h2; cases h2; rfl
  refine ⟨.ref _, H2, J2, rfl, q H2 _ as (fun b o eb => k2 b o ?_) newS new (k2 _ _ upd_same) (by rw [hl, hsz]) fun j t q0 e1 e2 => ?_⟩
  · rw [upd_ne (ne_of_none eb newS)]; exact eb
  · obtain ⟨vs, h1, h2⟩ := q2 t (List.mem_of_getElem? e1)
    rw [h2, h1 j q0 e1 e2]
end
end LTup
namespace DL
open PySem PySem.Spec PyProof.Rows L2 LTup
/-! ### at the data's level -/
def oD : Option Int → D
  | none => .non
  | some i => .int i
def optsD : List D → Option (List (Option Int))
  | [] => some []
  | .non :: l => (optsD l).map (none :: ·)
  | .int i :: l => (optsD l).map (some i :: ·)
  | _ => none
def keyD : D → Option (List (Option Int))
  | .tup l => optsD l
  | _ => none
/-- a dict with tuple keys: which cell, its keys, its values -/
def tabOf (μ : List M) : D → Option (Nat × List (List (Option Int)) × List D)
  | .cel i => match μ[i]? with
    | some (.dcT ks l) => some (i, ks, l)
    | _ => none
  | _ => none
def setdM (μ : List M) (t : Nat × List (List (Option Int)) × List D) (k : List (Option Int)) (v : D) : List M := if k ∈ t.2.1 then μ else μ.set t.1 (.dcT (t.2.1 ++ [k]) (t.2.2 ++ [v]))
def dropL (k : List (Option Int)) : List (List (Option Int)) → List D → List D
  | x :: ks, d :: l => if x = k then dropL k ks l else d :: dropL k ks l
  | _, _ => []
def dropM (μ : List M) (t : Nat × List (List (Option Int)) × List D) (k : List (Option Int)) : List M := μ.set t.1 (.dcT (t.2.1.filter fun x => decide (x ≠ k)) (dropL k t.2.1 t.2.2))
def itemsD : List (List (Option Int)) → List D → List D
  | k :: ks, d :: l => .tup [.tup (k.map oD), d] :: itemsD ks l
  | _, _ => []
def sDct (i : Nat) : DS := fun env μ => .nx (env.set i (some (.cel μ.length))) (μ ++ [.dcT [] []])
def sSetd (da : DE) (ds : DA) : DS := fun env μ => (da env μ).bindS env fun x μ1 => if (tabOf μ1 x).isSome = true then (ds env μ1).bindS env fun l μ2 => (match l with
  | [k, v] => match keyD k, tabOf μ2 x with
    | some k', some t => if t.2.1.length < 100000 then .nx env (setdM μ2 t k' v) else .stuck
    | _, _ => .stuck
  | _ => .stuck) else .stuck
def sPopk (da : DE) (ds : DA) : DS := fun env μ => (da env μ).bindS env fun x μ1 => if (tabOf μ1 x).isSome = true then (ds env μ1).bindS env fun l μ2 => (match l with
  | [k] => match keyD k, tabOf μ2 x with
    | some k', some t => if k' ∈ t.2.1 then .nx env (dropM μ2 t k') else .stuck
    | _, _ => .stuck
  | _ => .stuck) else .stuck
def dItT (da : DE) : DE := fun env μ => (da env μ).bind fun x μ1 => match tabOf μ1 x with
  | some t => if t.2.1.length ≤ 100000 then .ok (.lst (itemsD t.2.1 t.2.2)) μ1 else .stuck
  | none => .stuck
section
variable {X : Cx} {S : Sx} {W : WX} {c : Cf} {μ : List M} {x d : D} {v : V}
theorem opts_at {io : List Addr} {F : Hp} : ∀ {l : List D} {k : List (Option Int)} {xs : List V}, optsD l = some k → reps S io F l xs → xs = k.map oV
  | [], k, xs, e, r => by cases e; exact r.eq_nil
  | .non :: l, k, xs, e, r => by
    obtain ⟨k', e1, rfl⟩ := Option.map_eq_some_iff.mp (show (optsD l).map (none :: ·) = some k from e)
    obtain ⟨x, r', rfl, h1, h2⟩ := r.uncons
    rw [rep_non.mp h1, opts_at e1 h2]; rfl
  | .int i :: l, k, xs, e, r => by
    obtain ⟨k', e1, rfl⟩ := Option.map_eq_some_iff.mp (show (optsD l).map (some i :: ·) = some k from e)
    obtain ⟨x, r', rfl, h1, h2⟩ := r.uncons
    rw [rep_int.mp h1, opts_at e1 h2]; rfl
  | .bl _ :: _, _, _, e, _ => nomatch e
  | .str _ :: _, _, _, e, _ => nomatch e
  | .ty _ :: _, _, _, e, _ => nomatch e
  | .glo _ :: _, _, _, e, _ => nomatch e
  | .tup _ :: _, _, _, e, _ => nomatch e
  | .lst _ :: _, _, _, e, _ => nomatch e
  | .dct _ _ :: _, _, _, e, _ => nomatch e
  | .obj _ _ _ :: _, _, _, e, _ => nomatch e
  | .cel _ :: _, _, _, e, _ => nomatch e
  | .scr _ :: _, _, _, e, _ => nomatch e
  | .exc _ _ _ :: _, _, _, e, _ => nomatch e
  | .txt :: _, _, _, e, _ => nomatch e
theorem key_at {io : List Addr} {F : Hp} {k : List (Option Int)} (e : keyD x = some k) (r : rep S io F x v) : ∃ b, v = .ref b ∧ SqT S.K F b (k.map oV) := by
  cases x with
  | tup l =>
    unfold rep at r
    obtain ⟨b, xs, h1, h2, h3⟩ := r
    rw [opts_at (show optsD l = some k from e) h3] at h2
    exact ⟨b, h1, h2⟩
  | _ => cases e
theorem opts_rep {io : List Addr} {F : Hp} : ∀ (k : List (Option Int)), reps S io F (k.map oD) (k.map oV)
  | [] => .nil
  | none :: k => .cons (rep_non.mpr rfl) (opts_rep k)
  | some i :: k => .cons (rep_int.mpr rfl) (opts_rep k)
theorem tab_at {t : Nat × List (List (Option Int)) × List D} (I : SI S c μ) (r : rep S c.io c.F x v) (h : tabOf μ x = some t) : ∃ a kvs, v = .ref a ∧ c.io[t.1]? = some a ∧ c.F a = none ∧ c.H a = some (dicT a kvs) ∧ kvs.map (·.1) = t.2.1 ∧
    (∀ e ∈ kvs, SqT S.K c.F e.2.1 (e.1.map oV)) ∧ reps S c.io c.F t.2.2 (kvs.map (·.2.2)) ∧ μ[t.1]? = some (.dcT t.2.1 t.2.2) := by
  cases x with
  | cel i =>
    unfold rep at r
    obtain ⟨a, h1, h2⟩ := r
    have h : (match μ[i]? with | some (.dcT ks l) => some (i, ks, l) | _ => none) = some t := h
    cases e : μ[i]? with
    | none => rw [e] at h; cases h
    | some m =>
      rw [e] at h
      cases m with
      | dcT ks l =>
        cases h
        obtain ⟨k1, kvs, k2, k3, k4, k5⟩ := I.cell i a _ h2 e
        exact ⟨a, kvs, h1, h2, k1, k2, k3, k4, k5, e⟩
      | _ => cases h
  | _ => cases h
theorem look_mem {kvs : List TKV} {k : List (Option Int)} : look kvs k = none ↔ k ∉ kvs.map (·.1) := by
  unfold look
  rw [List.find?_eq_none]
  constructor
  · intro h m
    obtain ⟨e, he, rfl⟩ := List.mem_map.mp m
    exact absurd (h e he) (by simp)
  · intro h e he
    simp only [decide_eq_true_eq]
    exact fun z => h (z ▸ List.mem_map.mpr ⟨e, he, rfl⟩)
theorem look_some {kvs : List TKV} {k : List (Option Int)} (h : k ∈ kvs.map (·.1)) : ∃ e, look kvs k = some e := by
  cases e : look kvs k with
  | some x => exact ⟨x, rfl⟩
  | none => exact absurd h (look_mem.mp e)
theorem drop_map {k : List (Option Int)} : ∀ (kvs : List TKV), (dropT kvs k).map (·.1) = (kvs.map (·.1)).filter fun x => decide (x ≠ k)
  | [] => rfl
  | e :: kvs => by
    have ih := drop_map (k := k) kvs
    unfold dropT at ih ⊢
    rw [List.filter_cons, List.map_cons, List.filter_cons]
    by_cases h : e.1 = k
    · rw [if_neg (by simp [h]), if_neg (by simp [h])]; exact ih
    · rw [if_pos (by simp [h]), if_pos (by simp [h]), List.map_cons, ih]
theorem drop_reps {io : List Addr} {F : Hp} {k : List (Option Int)} : ∀ {kvs : List TKV} {l : List D}, reps S io F l (kvs.map (·.2.2)) → reps S io F (dropL k (kvs.map (·.1)) l) ((dropT kvs k).map (·.2.2))
  | [], l, h => by
    cases l with
    | nil => exact .nil
    | cons d l => obtain ⟨_, _, e, _⟩ := h.uncons; cases e
  | e :: kvs, [], h => by cases h.eq_nil
  | e :: kvs, d :: l, h => by
    obtain ⟨x, r, e1, h1, h2⟩ := h.uncons
    cases e1
    have ih := drop_reps (k := k) h2
    rw [List.map_cons]
    unfold dropL dropT
    rw [List.filter_cons]
    by_cases z : e.1 = k
    · rw [if_pos z, if_neg (by simp [z])]; exact ih
    · rw [if_neg z, if_pos (by simp [z])]; exact .cons h1 ih
end
end DL
namespace DL
open PySem PySem.Spec PyProof.Rows L2 LTup
section
variable {X : Cx} {S : Sx} {W : WX} {a e : Expr} {es : List Expr} {da : DE} {ds : DA} {pos apos cpos p : Pos}
theorem pds_dct {i : Nat} {x : Str} {pos' lpos : Pos} (hN : X.N.Nodup) (hi : X.N[i]? = some x) (hx : Loc X.env.scope x) (hs : swapsWith (.Dict [] [] lpos) (some (.Name x pos')) pos.line X.env = pure false := by rfl)
    (hf : X.fn x = true ∨ X.env.scope.names.lookup x = some .local := by first | exact .inl rfl | exact .inr rfl) : PDS X S W (.Assign [.Name x pos'] (.Dict [] [] lpos) pos) (sDct i) := by
  have pe : PE X (.Dict [] [] lpos) (fun _ H Q => ∀ p, H p = none → Q (.ref p) (upd H p (dicT p []))) := ⟨fun pins s σ H Q I h =>
    wpAny_Dict_empty ⟨.ref s.heap.objs.size, _, I.laid (a := s.heap.objs.size) (o := dicT s.heap.objs.size []) (t' := s.toks) (fun _ _ q => Heap.get?_push_of_some _ q) (Nat.le_refl _)
      (dic_ok ⟨Nat.zero_le _, beq_eq_false_iff_ne.mpr (Ne.symm (Nat.ne_of_lt I.big)), [], .nil, _, #[], 0, Heap.get?_push_size _ rfl, ⟨rfl, rfl, rfl⟩, rfl, rfl, List.nodup_nil⟩), rfl, h _ (I.hok.fresh (Nat.le_refl _))⟩⟩
  refine ⟨_, ps_set hN hi hx pe hs hf, fun env σ c μ E I en q => ?_⟩
  refine (show ∀ p, c.H p = none → E.nx (σ.set i (some (.ref p))) (upd c.H p (dicT p [])) from fun p hp => ?_)
  obtain ⟨I', s⟩ := I.alloc (p := p) (o := dicT p []) (m := .dcT [] []) hp fun io pre => ⟨I.ex.back hp, [], upd_same, rfl, (fun _ z => nomatch z), .nil⟩
  refine q _ _ s I' ((en.step s).set ?_ i)
  unfold rep
  refine ⟨p, rfl, ?_⟩
  show (c.io ++ [p])[μ.length]? = some p
  rw [← I.len, List.getElem?_append_right (Nat.le_refl _), Nat.sub_self]; rfl
theorem pds_setd (hK : X.K = S.K) (hu : X.A.units + 64 < cLine) (ha : PDE X S W a da) (hb : PDA X S W (e :: es) ds)
    (h1 : attributeBase a "setdefault" X.env (eval a X.env) = eval a X.env := by rfl)
    (h2 : ((backTo cpos (starEach (e :: es) X.env)).all (fun x => !x.1) && ((backToKw cpos (keywordEach [] X.env)).all (fun x => x.1.isSome) && decide ((e :: es).length + ([] : List Keyword).length + (if ([] : List Keyword).isEmpty then 0 else 1) < 30))) = true := by rfl)
    (h3 : (apos.endLine == cpos.line) = true := by rfl) (h4 : starEach (e :: es) X.env = (false, eval e X.env) :: starEach es X.env := by rfl) (h5 : (backTo cpos (starEach es X.env)).any (·.1) = false := by rfl)
    (hs : swapsWith (.Call (.Attribute a "setdefault" apos) (e :: es) [] cpos) none pos.line X.env = pure false := by rfl) : PDS X S W (.Expr (.Call (.Attribute a "setdefault" apos) (e :: es) [] cpos) pos) (sSetd da ds) := by
  obtain ⟨ta, pa, ka⟩ := ha.ex
  obtain ⟨tb, pb, kb⟩ := hb.ex
  refine ⟨_, ps_expr (pe_dm PySem.F.slot_dict_setdefault PySem.F.type_dict_setdefault (mt_setd (by omega)) pa pb h1 h2 h3 h4 h5) hs, fun env σ c μ E I en q => ?_⟩
  refine (show ta σ c.H fun x H1 => (∃ a kvs, x = V.ref a ∧ H1 a = some (dicT a kvs)) ∧ tb σ H1 fun vs H2 => rSetd X.K x vs H2 fun _ H3 => E.nx σ H3 from ?_)
  refine bindES en (fun Q' => ka env σ c μ Q' I en) q fun x μ1 v c1 s1 I1 r1 q1 => ?_
  cases e1 : tabOf μ1 x with
  | none => rw [e1] at q1; exact q1.elim
  | some t1 =>
    rw [e1] at q1
    obtain ⟨p1, kv1, rfl, _, _, g1, _⟩ := tab_at I1 r1 e1
    refine ⟨⟨p1, kv1, rfl, g1⟩, ?_⟩
    refine bindAS (en.step s1) (fun Q' => kb env σ c1 μ1 Q' I1 (en.step s1)) q1 fun l μ2 vs c2 s2 I2 r2 q2 => ?_
    split at q2
    · rename_i k v
      obtain ⟨vk, r', rfl, rk, r3⟩ := r2.uncons
      obtain ⟨vv, r'', rfl, rv, r4⟩ := r3.uncons
      obtain rfl := r4.eq_nil
      split at q2
      · rename_i k' t ek et
        by_cases hl : t.2.1.length < 100000
        · rw [if_pos hl] at q2
          obtain ⟨p2, kvs, ep, hi, hF, hH, hm, hk, hr, hM⟩ := tab_at I2 (s2.rep r1) et
          cases ep
          obtain ⟨b, rfl, kb⟩ := key_at ek rk
          have hn : kvs.length < sizeLine := by rw [show kvs.length = t.2.1.length by rw [← hm, List.length_map]]; exact sz_lt hl
          refine ⟨p1, kvs, k', b, vv, rfl, rfl, hH, by rw [hK]; exact ex_t I2.ex kb, fun e he => by rw [hK]; exact ex_t I2.ex (hk e he), hn, fun e he => ?_, fun hn' => ?_⟩
          · have hin : k' ∈ t.2.1 := by
              rw [← hm]
              by_cases z : k' ∈ kvs.map (·.1)
              · exact z
              · rw [look_mem.mpr z] at he; cases he
            rw [show setdM μ2 t k' v = μ2 by unfold setdM; rw [if_pos hin]] at q2
            exact q2 σ c2 I2.step I2 ((en.step s1).step s2)
          · have hno : k' ∉ t.2.1 := hm ▸ look_mem.mp hn'
            rw [show setdM μ2 t k' v = μ2.set t.1 (.dcT (t.2.1 ++ [k']) (t.2.2 ++ [v])) by unfold setdM; rw [if_neg hno]] at q2
            have hk2 : ∀ e ∈ kvs ++ [(k', b, vv)], SqT S.K c2.F e.2.1 (e.1.map oV) := fun e he => by
              rcases List.mem_append.mp he with he | he
              · exact hk e he
              · rw [List.mem_singleton.mp he]; exact kb
            obtain ⟨I3, s3⟩ := I2.write (o := dicT p1 (kvs ++ [(k', b, vv)])) (m := .dcT (t.2.1 ++ [k']) (t.2.2 ++ [v])) hi hF ⟨hF, kvs ++ [(k', b, vv)], upd_same, by rw [List.map_append, hm]; rfl, hk2, by rw [List.map_append]; exact hr.append (.cons rv .nil)⟩
            exact q2 σ _ s3 I3 (((en.step s1).step s2).step s3)
        · rw [if_neg hl] at q2; exact q2.elim
      · exact q2.elim
    · exact q2.elim
theorem pds_popk (hK : X.K = S.K) (hu : X.A.units + 64 < cLine) (ha : PDE X S W a da) (hb : PDA X S W (e :: es) ds)
    (h1 : attributeBase a "pop" X.env (eval a X.env) = eval a X.env := by rfl)
    (h2 : ((backTo cpos (starEach (e :: es) X.env)).all (fun x => !x.1) && ((backToKw cpos (keywordEach [] X.env)).all (fun x => x.1.isSome) && decide ((e :: es).length + ([] : List Keyword).length + (if ([] : List Keyword).isEmpty then 0 else 1) < 30))) = true := by rfl)
    (h3 : (apos.endLine == cpos.line) = true := by rfl) (h4 : starEach (e :: es) X.env = (false, eval e X.env) :: starEach es X.env := by rfl) (h5 : (backTo cpos (starEach es X.env)).any (·.1) = false := by rfl)
    (hs : swapsWith (.Call (.Attribute a "pop" apos) (e :: es) [] cpos) none pos.line X.env = pure false := by rfl) : PDS X S W (.Expr (.Call (.Attribute a "pop" apos) (e :: es) [] cpos) pos) (sPopk da ds) := by
  obtain ⟨ta, pa, ka⟩ := ha.ex
  obtain ⟨tb, pb, kb⟩ := hb.ex
  refine ⟨_, ps_expr (pe_dm PySem.F.slot_dict_pop PySem.F.type_dict_pop (mt_popk (by omega)) pa pb h1 h2 h3 h4 h5) hs, fun env σ c μ E I en q => ?_⟩
  refine (show ta σ c.H fun x H1 => (∃ a kvs, x = V.ref a ∧ H1 a = some (dicT a kvs)) ∧ tb σ H1 fun vs H2 => rPopk X.K x vs H2 fun _ H3 => E.nx σ H3 from ?_)
  refine bindES en (fun Q' => ka env σ c μ Q' I en) q fun x μ1 v c1 s1 I1 r1 q1 => ?_
  cases e1 : tabOf μ1 x with
  | none => rw [e1] at q1; exact q1.elim
  | some t1 =>
    rw [e1] at q1
    obtain ⟨p1, kv1, rfl, _, _, g1, _⟩ := tab_at I1 r1 e1
    refine ⟨⟨p1, kv1, rfl, g1⟩, ?_⟩
    refine bindAS (en.step s1) (fun Q' => kb env σ c1 μ1 Q' I1 (en.step s1)) q1 fun l μ2 vs c2 s2 I2 r2 q2 => ?_
    split at q2
    · rename_i k
      obtain ⟨vk, r', rfl, rk, r3⟩ := r2.uncons
      obtain rfl := r3.eq_nil
      split at q2
      · rename_i k' t ek et
        by_cases hl : k' ∈ t.2.1
        · rw [if_pos hl] at q2
          obtain ⟨p2, kvs, ep, hi, hF, hH, hm, hk, hr, hM⟩ := tab_at I2 (s2.rep r1) et
          obtain rfl := V.ref.inj ep
          obtain ⟨b, rfl, kb⟩ := key_at ek rk
          obtain ⟨e0, he0⟩ := look_some (hm.symm ▸ hl)
          refine ⟨p1, kvs, k', b, e0, rfl, rfl, hH, by rw [hK]; exact ex_t I2.ex kb, fun e he => by rw [hK]; exact ex_t I2.ex (hk e he), he0, ?_⟩
          obtain ⟨I3, s3⟩ := I2.write (o := dicT p1 (dropT kvs k')) (m := .dcT (t.2.1.filter fun x => decide (x ≠ k')) (dropL k' t.2.1 t.2.2)) hi hF ⟨hF, dropT kvs k', upd_same, by rw [drop_map, hm], fun e he => hk e (List.mem_filter.mp he).1, by rw [← hm]; exact drop_reps hr⟩
          exact q2 σ _ s3 I3 (((en.step s1).step s2).step s3)
        · rw [if_neg hl] at q2; exact q2.elim
      · exact q2.elim
    · exact q2.elim
/-- several new objects that never change -/
theorem SI.grow {c : Cf} {μ : List M} (I : SI S c μ) {H' : Hp} {N : List Addr} (hN : ∀ b ∈ N, c.H b = none) (k : ∀ b o, c.H b = some o → H' b = some o) :
    SI S ⟨c.io, fun b => if b ∈ N then H' b else c.F b, H'⟩ μ ∧ Step S c ⟨c.io, fun b => if b ∈ N then H' b else c.F b, H'⟩ := by
  have out : ∀ b o, c.H b = some o → b ∉ N := fun b o e m => by rw [hN b m] at e; cases e
  have ex : Ex c.F (fun b => if b ∈ N then H' b else c.F b) := fun b o e => by
    show (if b ∈ N then H' b else c.F b) = some o
    rw [if_neg (out b o (I.ex b o e))]; exact e
  have fo : ∀ b, b ∉ N → (if b ∈ N then H' b else c.F b) = c.F b := fun b h => if_neg h
  have ni : ∀ b, b ∈ c.io → b ∉ N := fun b m => by
    obtain ⟨o, e⟩ := I.there m
    exact out b o e
  refine ⟨⟨fun b o e => ?_, I.len, I.nd, fun i a m h1 h2 => ?_, I.cls⟩, ⟨List.prefix_refl _, I.nd, ex, fun q h1 h2 h3 => ?_, fun q o h1 _ => k q o h1, fun q h1 h2 => absurd h1 h2, fun q h => ?_⟩⟩
  · have e : (if b ∈ N then H' b else c.F b) = some o := e
    by_cases m : b ∈ N
    · rw [if_pos m] at e; exact e
    · rw [if_neg m] at e; exact k b o (I.ex b o e)
  · have na := ni a (List.mem_of_getElem? h1)
    have q := I.cell i a m h1 h2
    have fa : c.F a = none → (if a ∈ N then H' a else c.F a) = none := fun z => by rw [fo a na]; exact z
    cases m with
    | lst l => obtain ⟨k1, xs, k2, k3⟩ := q; exact ⟨fa k1, xs, k _ _ k2, reps.mono (List.prefix_refl _) ex _ k3⟩
    | dct ks l => obtain ⟨k1, xs, k2, k3, k4⟩ := q; exact ⟨fa k1, xs, k _ _ k2, k3, reps.mono (List.prefix_refl _) ex _ k4⟩
    | obj x ns l => obtain ⟨k1, dx, fs, k2, k3, k4⟩ := q; exact ⟨fa k1, dx, fs, k _ _ k2, k3, reps.mono (List.prefix_refl _) ex _ k4⟩
    | dead => obtain ⟨o, q⟩ := q; exact ⟨o, k _ _ q⟩
    | dcT ks l => obtain ⟨k1, xs, k2, k3, k4, k5⟩ := q; exact ⟨fa k1, xs, k _ _ k2, k3, fun e he => ex_t ex (k4 e he), reps.mono (List.prefix_refl _) ex _ k5⟩
    | lck ks l => obtain ⟨od, u, vs, k1, k2, k3, k4⟩ := q; exact ⟨od, u, vs, (fo a na).trans k1, k _ _ k2, k3.mono ex, reps.mono (List.prefix_refl _) ex _ k4⟩
  · have h3 : (if q ∈ N then H' q else c.F q) ≠ none := h3
    by_cases m : q ∈ N
    · exact absurd (hN q m) h1
    · rw [if_neg m] at h3; exact absurd h2 h3
  · cases e : c.H q with
    | none => exact absurd e h
    | some o =>
      show H' q ≠ none
      rw [k q o e]; exact fun z => nomatch z
theorem items_rep {io : List Addr} {F F' : Hp} (ex : Ex F F') : ∀ {kvs : List TKV} {l : List D} {ts : List Addr}, reps S io F l (kvs.map (·.2.2)) → (∀ e ∈ kvs, SqT S.K F e.2.1 (e.1.map oV)) → ts.length = kvs.length →
    (∀ (j : Nat) (t : Addr) (q : TKV), ts[j]? = some t → kvs[j]? = some q → F' t = some (.tup [.ref q.2.1, q.2.2])) → reps S io F' (itemsD (kvs.map (·.1)) l) (ts.map V.ref)
  | [], l, ts, _, _, hl, _ => by
    cases ts with
    | nil => cases l <;> exact .nil
    | cons _ _ => cases hl
  | q :: kvs, [], _, r, _, _, _ => by cases r.eq_nil
  | q :: kvs, d :: l, [], _, _, hl, _ => by cases hl
  | q :: kvs, d :: l, t :: ts, r, hk, hl, ht => by
    obtain ⟨x, r', e, h1, h2⟩ := r.uncons
    cases e
    refine .cons ?_ (items_rep ex h2 (fun e he => hk e (List.mem_cons_of_mem _ he)) (Nat.succ.inj hl) fun j t q h1 h2 => ht (j + 1) t q h1 h2)
    have kq := hk q List.mem_cons_self
    unfold rep
    refine ⟨t, [.ref q.2.1, q.2.2], rfl, st_of (ht 0 t q rfl rfl), .cons ?_ (.cons (rep.mono (List.prefix_refl _) ex d h1) .nil)⟩
    unfold rep
    exact ⟨q.2.1, _, rfl, ex_t ex kq, opts_rep _⟩
theorem pd_itT (hK : X.K = S.K) (hc : X.calm = true) (ha : PDE X S W a da) (hg : Gl X "list") (hm : X.mg "list" = none) (hbase : attributeBase a "items" X.env (eval a X.env) = eval a X.env := by rfl) (hline : (apos.endLine == cpos.line) = true := by rfl)
    (hs : starEach [.Call (.Attribute a "items" apos) [] [] cpos] X.env = (false, eval (.Call (.Attribute a "items" apos) [] [] cpos) X.env) :: starEach [] X.env := by rfl) :
    PDE X S W (.Call (.Name "list" p) [.Call (.Attribute a "items" apos) [] [] cpos] [] pos) (dItT da) := by
  obtain ⟨ta, pa, ka⟩ := ha.ex
  refine ⟨_, pe_itT hc pa hg hm hbase hline hs, fun env σ c μ Q I en qq => ?_⟩
  refine (show ta σ c.H fun x H1 => rItT x H1 Q from ?_)
  refine bindE (fun Q' => ka env σ c μ Q' I en) qq fun x μ1 v c1 s1 I1 r1 q1 => ?_
  cases e : tabOf μ1 x with
  | none => rw [e] at q1; exact q1.elim
  | some t =>
    rw [e] at q1
    have q1 : EQ S W σ c1 Q (if t.2.1.length ≤ 100000 then .ok (.lst (itemsD t.2.1 t.2.2)) μ1 else .stuck) := q1
    by_cases hl : t.2.1.length ≤ 100000
    · rw [if_pos hl] at q1
      obtain ⟨a, kvs, rfl, hi, hF, hH, hm, hk, hr, hM⟩ := tab_at I1 r1 e
      refine ⟨a, kvs, rfl, hH, fun H' p ts k1 k2 k3 k4 k5 k6 => ?_⟩
      obtain ⟨I2, s2⟩ := I1.grow (H' := H') (N := p :: ts) (fun b m => by
        rcases List.mem_cons.mp m with rfl | m
        · exact k2
        · exact k3 b m) k1
      refine q1 _ _ s2 I2 ?_
      have g := items_rep (S := S) (io := c1.io) s2.exF hr hk k5 fun j t q h1 h2 => by
        show (if t ∈ p :: ts then H' t else c1.F t) = _
        rw [if_pos (List.mem_cons_of_mem _ (List.mem_of_getElem? h1))]
        exact k6 j t q h1 h2
      rw [hm] at g
      unfold rep
      refine ⟨p, _, rfl, ?_, g⟩
      show (if p ∈ p :: ts then H' p else c1.F p) = _
      rw [if_pos List.mem_cons_self]; exact k4
    · rw [if_neg hl] at q1; exact q1.elim
end
end DL
set_option maxHeartbeats 1000000
/-! over d.items() of a locked dict with tuple keys -/
namespace LTup
open PySem PySem.Spec PyProof.Rows L2 DL
def ItT (d : Addr) (o : Obj) (kvs : List TKV) : It :=
  ⟨fun i H => H d = some (.frz o (dicT d kvs)) ∧ i < kvs.length, fun i H x H' => ∃ T q, kvs[i]? = some q ∧ x = .ref T ∧ H T = none ∧ H' = upd H T (.tup [.ref q.2.1, q.2.2]), fun i H => H d = some (.frz o (dicT d kvs)) ∧ kvs.length ≤ i⟩
def iTI (td : TE) : TI := fun σ H R => td σ H fun x H1 => ∃ d o kvs, x = .ref d ∧ H1 d = some (.frz o (dicT d kvs)) ∧ R (ItT d o kvs) H1
section
variable {P : Program} {w : World} {K : PySem.W.Frag} {d : Addr} {o : Obj} {es : Array DictEntry} {ep : Nat}
theorem frz_in {X : Cx} {pins : List (Addr × Obj)} {σ : L2.St} {H : Hp} {s : Shared} {kvs : List TKV} (I : Inv X pins σ H s) (h : H d = some (.frz o (dicT d kvs))) :
    (d == sysModules) = false ∧ s.heap.get? d = some o ∧ ∃ es ep, o.ExactDict ∧ o.data = .dict es ep ∧ es.size = kvs.length ∧ ∀ (j : Nat) (en : DictEntry), es[j]? = some en → ∃ q, kvs[j]? = some q ∧ en.key = .ref q.2.1 ∧ RelV q.2.2 en.val := by
  obtain ⟨e, x⟩ := (show s.heap.get? d = some o ∧ ObjOk X.prog X.w H s.heap d (dicT d kvs) from I.hok d _ h)
  obtain ⟨h1, es, ep, ⟨o', g1, g2, g3⟩, h3, _, h5⟩ := raw_es x.1
  rw [e] at g1
  cases g1
  exact ⟨h1, e, es, ep, g2, g3, h3, h5⟩
theorem turn_itT {kvs : List TKV} {elts : List Expr} {kk : Nat} {tpos : Pos} (it : Addr) (hx : o.ExactDict) (hod : o.data = .dict es ep) : Turn P w K (.Tuple elts kk tpos) (ItT d o kvs) [it] it (fun i h => ∃ ok ov, IsItemIter h it d i es.size ep ok ov) where
  mem := by simp
  obj := fun i h st b hb => by
    obtain rfl : b = it := by simpa using hb
    obtain ⟨k, v, e⟩ := st
    exact ⟨_, e, fun v z => nomatch z⟩
  keep := fun i h h' st k => let ⟨a, b, e⟩ := st; ⟨a, b, k it (by simp) _ e⟩
  item := by
    intro X hP hw hK hc i pins s σ H E I hf st hg
    subst hP hw hK
    obtain ⟨hd, hi⟩ := hg
    obtain ⟨_, e0, es', ep', _, e1, hsz, hen⟩ := frz_in I hd
    obtain ⟨rfl, rfl⟩ := dict_ep hod e1
    have hi2 : i < es'.size := by omega
    obtain ⟨q, hq, hk, hv⟩ := hen i _ (Array.getElem?_eq_getElem hi2)
    obtain ⟨k, v, he⟩ := st
    have lt : it < s.heap.objs.size := Heap.lt_size he
    refine wpAny_pyNext_items_item_raw he ⟨o, e0, hx, hod⟩ hi2 fun h' ho hT hz kp => ?_
    refine ⟨_, rfl, wpAny_letOwnedTupleGo_items (s := { s with heap := h' }) ho fun h2 he' sb => ?_⟩
    have hT2 : h2.get? s.heap.objs.size = some { cls := .type "tuple", data := .seq #[es'[i].key, es'[i].val] } := (sb.2 _ (Nat.ne_of_gt lt)).trans hT
    have I1 : Inv X pins σ (upd H s.heap.objs.size (.tup [.ref q.2.1, q.2.2])) { s with heap := h2 } :=
      I.turnedNew (t' := s.toks) (ch := [it]) (fun b ob hb e => (sb.2 b (by simpa using hb)).trans (kp b ob (by simpa using hb) e)) hf (Nat.le_refl _) ⟨by show 2 ≤ sizeLine; decide, [es'[i].key, es'[i].val], .cons hk (.cons hv .nil), ⟨_, hT2, rfl, _, rfl⟩⟩
    refine ⟨.ref s.heap.objs.size, _, I1, rfl, ⟨_, q, hq, rfl, I.hok.fresh (Nat.le_refl _), rfl⟩, ⟨_, _, he'⟩, fun b hb => ?_⟩
    obtain rfl : b = it := by simpa using hb
    rw [upd_ne (Nat.ne_of_lt lt)]
    exact (hf b (by simp)).1
  done := by
    intro X hP hw hK hc i pins s σ H E I hf st hg
    subst hP hw hK
    obtain ⟨hd, hi⟩ := hg
    obtain ⟨f0, f1, f2, f3, f4, f5⟩ := hf it (by simp)
    obtain ⟨_, e0, es', ep', _, e1, hsz, _⟩ := frz_in I hd
    obtain ⟨rfl, rfl⟩ := dict_ep hod e1
    obtain ⟨k, v, he⟩ := st
    exact wpAny_pyNext_items_end_raw (I.ok.hd hc) he ⟨o, e0, hx, hod⟩ (by omega) fun h' eb => ⟨rfl, I.turned (t' := s.toks) (fun b ob hb e => eb b ob hb e) f0 f1 f3 f4 f5⟩
  self := fun A i s Q E st h => let ⟨_, _, e⟩ := st; PySem.W.kcp_self e h
end
section
variable {X : Cx} {e : Expr} {td : TE} {apos cpos : Pos}
theorem pi_itT {elts : List Expr} {kk : Nat} {tpos : Pos} (he : PE X e td) (hbase : attributeBase e "items" X.env (eval e X.env) = eval e X.env := by rfl) (hline : (apos.endLine == cpos.line) = true := by rfl) :
    PI X (.Tuple elts kk tpos) (.Call (.Attribute e "items" apos) [] [] cpos) (iTI td) := by
  refine ⟨fun pins s σ H R I h => ?_⟩
  refine wpAny_Call_method (T := "dict") (id := "dict.items") hbase rfl hline F.plainAttrs_dict F.slot_dict_items F.type_dict_items (thn (he.run pins s σ H _ I h) fun u s1 ⟨x, H1, I1, rx, d, o, kvs, ex, hd, q⟩ => ?_)
  subst ex
  obtain rfl : u = Value.ref d := rx
  obtain ⟨hs, e0, es, ep, hx, e1, hsz, _⟩ := frz_in I1 hd
  have m : s1.heap.DictRaw d es ep := ⟨o, e0, hx, e1⟩
  refine ⟨⟨o, e0, hx.1⟩, fun b eb => ?_, ?_⟩
  · injection eb with eb; subst eb; exact ⟨o, e0, hx.2.1⟩
  have I2 : Inv X pins σ H1 { s1 with heap := s1.heap.push { cls := .type "dict_items", data := .fields #[.ref d] } } := I1.kept (t' := s1.toks) fun b ob q => Heap.get?_push_of_some _ q
  have fin : wpAny (model X.prog X.w) X.A (pyIter (.ref s1.heap.objs.size)) (PIE X pins σ (.Tuple elts kk tpos) R) X.xe { s1 with heap := s1.heap.push { cls := .type "dict_items", data := .fields #[.ref d] } } := by
    refine wpAny_pyIter_items_raw (d := d) ⟨_, Heap.get?_push_size _ rfl, rfl, rfl⟩ (m.at fun o q => Heap.get?_push_of_some _ q) (pi_one (tk := s1.toks) I2 _ (turn_itT _ hx e1) ⟨.none, .none, ?_⟩ q)
    exact Heap.get?_push_size _ rfl
  show wpAny _ _ (callWith cpos (.builtin "dict.items") [.ref d] [] []) _ X.xe s1
  exact method_meetsIn F.slot_dict_items F.entry_dict_items rfl (PySem.evalArgs_none ⟨rfl, ⟨o, e0, hx.1⟩, F.args_dict_items_1 _, _, meets_dict_items_raw d hs, ⟨es, ep, m⟩, fin⟩)
end
end LTup
namespace DL
open PySem PySem.Spec PyProof.Rows L2 LTup
/-- the items of a locked dict with tuple keys -/
def iItT (da : DE) : DI := fun env μ => (da env μ).bind fun x μ1 => match x with
  | .cel i => match μ1[i]? with
    | some (.lck (.t ks) l) => .ok (itemsD ks l, fun _ => True) μ1
    | _ => .stuck
  | _ => .stuck
section
variable {X : Cx} {S : Sx} {W : WX} {a : Expr} {da : DE} {apos cpos : Pos}
theorem items_get {io : List Addr} {F : Hp} : ∀ {kvs : List TKV} {l : List D} {i : Nat} {q : TKV}, reps S io F l (kvs.map (·.2.2)) → kvs[i]? = some q → ∃ d, (itemsD (kvs.map (·.1)) l)[i]? = some (.tup [.tup (q.1.map oD), d]) ∧ rep S io F d q.2.2
  | [], _, _, _, _, e => by simp at e
  | q :: kvs, [], _, _, r, _ => by cases r.eq_nil
  | q :: kvs, d :: l, 0, _, r, e => by
    obtain rfl := Option.some.inj e
    obtain ⟨x, r', e1, h1, h2⟩ := r.uncons
    cases e1
    exact ⟨d, rfl, h1⟩
  | q :: kvs, d :: l, i + 1, q', r, e => by
    obtain ⟨x, r', e1, h1, h2⟩ := r.uncons
    cases e1
    exact items_get (i := i) h2 e
theorem items_len {io : List Addr} {F : Hp} : ∀ {kvs : List TKV} {l : List D}, reps S io F l (kvs.map (·.2.2)) → (itemsD (kvs.map (·.1)) l).length = kvs.length
  | [], l, r => by cases l <;> rfl
  | q :: kvs, [], r => by cases r.eq_nil
  | q :: kvs, d :: l, r => by
    obtain ⟨x, r', e1, h1, h2⟩ := r.uncons
    cases e1
    exact congrArg (· + 1) (items_len h2)
theorem pdi_itT {elts : List Expr} {kk : Nat} {tpos : Pos} (hK : X.K = S.K) (ha : PDE X S W a da) (hbase : attributeBase a "items" X.env (eval a X.env) = eval a X.env := by rfl) (hline : (apos.endLine == cpos.line) = true := by rfl) :
    PDI X S W (.Tuple elts kk tpos) (.Call (.Attribute a "items" apos) [] [] cpos) (iItT da) := by
  obtain ⟨ta, pa, ka⟩ := ha.ex
  refine ⟨_, pi_itT pa hbase hline, fun env σ c μ R I en q => ?_⟩
  refine (show ta σ c.H fun x H1 => ∃ d o kvs, x = .ref d ∧ H1 d = some (.frz o (dicT d kvs)) ∧ R (ItT d o kvs) H1 from ?_)
  refine bindEI (fun Q' => ka env σ c μ Q' I en) q fun x μ1 v c1 s1 I1 r1 q1 => ?_
  cases x with
  | cel i =>
    have q1 : IQ S W σ c1 R (match μ1[i]? with | some (.lck (.t ks) l) => .ok (itemsD ks l, fun _ => True) μ1 | _ => .stuck) := q1
    cases e : μ1[i]? with
    | none => rw [e] at q1; exact q1.elim
    | some m =>
      rw [e] at q1
      cases m with
      | lck t l =>
        cases t with
        | t ks =>
          unfold rep at r1
          obtain ⟨p, rfl, h2⟩ := r1
          obtain ⟨od, u, vs, k1, k2, ⟨kvs, rfl, rfl, k5, rfl⟩, k4⟩ := I1.cell i p _ h2 e
          have q1 : IQ S W σ c1 R (.ok (itemsD (kvs.map (·.1)) l, fun _ => True) μ1) := q1
          refine ⟨p, od, kvs, rfl, k2, q1 _ c1 I1.step I1 ⟨fun H => H p = some (.frz od (dicT p kvs)), fun i H x H' => ∃ T q, kvs[i]? = some q ∧ x = .ref T ∧ H T = none ∧ H' = upd H T (.tup [.ref q.2.1, q.2.2]), ?_, fun c2 μ2 s2 I2 _ => I2.ex _ _ (s2.exF _ _ k1), fun j x H' c2 μ2 hj s2 I2 _ y => ?_⟩⟩
          · rw [items_len k4]
            exact ⟨fun i H hi h => ⟨h, hi⟩, fun H h => ⟨h, Nat.le_refl _⟩, fun _ _ _ _ _ _ y => y⟩
          · obtain ⟨T, q, hq, rfl, hT, rfl⟩ := y
            obtain ⟨d, hd, rd⟩ := items_get (s2.reps k4) hq
            obtain ⟨I3, s3⟩ := I2.fresh (o := .tup [.ref q.2.1, q.2.2]) hT
            refine ⟨_, _, rfl, s3, I3, hd, ?_⟩
            unfold rep
            refine ⟨T, _, rfl, st_of upd_same, .cons ?_ (.cons (s3.rep rd) .nil)⟩
            unfold rep
            exact ⟨q.2.1, _, rfl, ex_t (s2.exF.trans s3.exF) (k5 q (List.mem_of_getElem? hq)), opts_rep _⟩
        | k ks => exact q1.elim
      | _ => exact q1.elim
  | _ => exact q1.elim
end
end DL
namespace DL
open PySem PySem.Spec PyProof.Rows L2 LTup
/-! ### a dict is locked while an expression, a statement runs -/
def woF (F : Hp) (a : Addr) : Hp := fun b => if b = a then none else F b
def NoSq (u : HO) : Prop := (∀ xs, u ≠ .lst xs) ∧ ∀ xs, u ≠ .tup xs
section
variable {S : Sx} {io : List Addr} {F : Hp} {a : Addr} {od : Obj} {u : HO}
theorem wo_at {b : Addr} {o : HO} (h : F a = some (.frz od u)) (n : o ≠ .frz od u) (e : F b = some o) : woF F a b = some o := by
  unfold woF
  rw [if_neg (fun z => by rw [z, h] at e; exact n (Option.some.inj e).symm)]; exact e
theorem wo_rd {b : Addr} {o : HO} (h : F a = some (.frz od u)) (n : u ≠ o) (n' : o ≠ .frz od u) (e : Rd F b o) : Rd (woF F a) b o := by
  rcases e with e | ⟨ob, e⟩
  · exact .inl (wo_at h n' e)
  · refine .inr ⟨ob, wo_at h (fun z => ?_) e⟩
    injection z with _ z
    exact n z.symm
theorem wo_t {K : PySem.W.Frag} {b : Addr} {xs : List V} (h : F a = some (.frz od u)) (n : NoSq u) (e : SqT K F b xs) : SqT K (woF F a) b xs := by
  rcases e with e | e
  · exact .inl (wo_rd h (n.2 xs) (fun z => nomatch z) e)
  · exact .inr e
theorem wo_l {K : PySem.W.Frag} {b : Addr} {xs : List V} (h : F a = some (.frz od u)) (n : NoSq u) (e : SqL K F b xs) : SqL K (woF F a) b xs := by
  rcases e with e | e
  · exact .inl (wo_rd h (n.1 xs) (fun z => nomatch z) e)
  · exact .inr e
mutual
theorem rep.wo (h : F a = some (.frz od u)) (n : NoSq u) : ∀ (d : D) {v : V}, rep S io F d v → rep S io (woF F a) d v
  | .non, _, r => by unfold rep at r ⊢; exact r
  | .bl b, _, r => by unfold rep at r ⊢; exact r
  | .int i, _, r => by unfold rep at r ⊢; exact r
  | .str s, _, r => by unfold rep at r ⊢; exact r
  | .ty t, _, r => by unfold rep at r ⊢; exact r
  | .glo x, _, r => by unfold rep at r ⊢; exact r
  | .tup l, _, r => by
    unfold rep at r ⊢
    obtain ⟨b, xs, h1, h2, h3⟩ := r
    exact ⟨b, xs, h1, wo_t h n h2, reps.wo h n l h3⟩
  | .lst l, _, r => by
    unfold rep at r ⊢
    obtain ⟨b, xs, h1, h2, h3⟩ := r
    exact ⟨b, xs, h1, wo_at h (fun z => nomatch z) h2, reps.wo h n l h3⟩
  | .scr ns, _, r => by
    unfold rep at r ⊢
    obtain ⟨b, h1, h2⟩ := r
    exact ⟨b, h1, wo_l h n h2⟩
  | .dct ks l, _, r => by
    unfold rep at r ⊢
    obtain ⟨b, xs, h1, h2, h3, h4⟩ := r
    exact ⟨b, xs, h1, wo_at h (fun z => nomatch z) h2, h3, reps.wo h n l h4⟩
  | .obj c ns l, _, r => by
    unfold rep at r ⊢
    obtain ⟨b, dx, fs, h1, h2, h3, h4, h5⟩ := r
    exact ⟨b, dx, fs, h1, wo_at h (fun z => nomatch z) h2, h3, reps.wo h n l h4, h5⟩
  | .cel i, _, r => by unfold rep at r ⊢; exact r
  | .exc c ns l, _, r => by
    unfold rep at r ⊢
    obtain ⟨b, oe, d, h1, h2, h3, h4, h5⟩ := r
    refine ⟨b, oe, d, h1, h2, h3, h4, ?_⟩
    rcases h5 with h5 | ⟨dd, fs, h5, h6, h7, h8⟩
    · exact Or.inl h5
    · exact Or.inr ⟨dd, fs, h5, wo_at h (fun z => nomatch z) h6, h7, reps.wo h n l h8⟩
  | .txt, _, r => by unfold rep at r ⊢; exact r
theorem reps.wo (h : F a = some (.frz od u)) (n : NoSq u) : ∀ (l : List D) {xs : List V}, reps S io F l xs → reps S io (woF F a) l xs
  | [], _, r => by unfold reps at r ⊢; exact r
  | d :: l, _, r => by
    unfold reps at r ⊢
    obtain ⟨x, q, h1, h2, h3⟩ := r
    exact ⟨x, q, h1, rep.wo h n d h2, reps.wo h n l h3⟩
end
theorem LkIs.wo {K : PySem.W.Frag} {a' : Addr} {u' : HO} {vs : List V} (h : F a = some (.frz od u)) (n : NoSq u) : ∀ {t : LK}, LkIs K F a' u' vs t → LkIs K (woF F a) a' u' vs t
  | .k _, q => q
  | .t _, ⟨kvs, h1, h2, h3, h4⟩ => ⟨kvs, h1, h2, fun e m => wo_t h n (h3 e m), h4⟩
end
def lockM : M → Option (LK × List D)
  | .dct ks l => some (.k ks, l)
  | .dcT ks l => some (.t ks, l)
  | _ => none
def unlM : LK → List D → M
  | .k ks, l => .dct ks l
  | .t ks, l => .dcT ks l
section
variable {S : Sx} {W : WX} {c c1 : Cf} {μ μ1 : List M} {i : Nat} {a : Addr} {t : LK} {l : List D} {m : M}
theorem lock_SI (I : SI S c μ) (hi : c.io[i]? = some a) (hm : μ[i]? = some m) (hl : lockM m = some (t, l)) :
    ∃ u, c.H a = some u ∧ Mut (some u) ∧ NoSq u ∧ c.F a = none ∧ ∀ od, SI S ⟨c.io, upd c.F a (.frz od u), upd c.H a (.frz od u)⟩ (μ.set i (.lck t l)) := by
  have k := I.cell i a m hi hm
  have hlt : i < μ.length := (List.getElem?_eq_some_iff.mp hm).1
  have fin : ∀ (u : HO) (vs : List V), c.F a = none → c.H a = some u → LkIs S.K c.F a u vs t → reps S c.io c.F l vs → ∀ od, SI S ⟨c.io, upd c.F a (.frz od u), upd c.H a (.frz od u)⟩ (μ.set i (.lck t l)) := fun u vs fa ha hk hr od => by
    have ex : Ex c.F (upd c.F a (.frz od u)) := Ex.new fa
    refine ⟨I.ex.upd, by rw [List.length_set]; exact I.len, I.nd, fun j b m' h1 h2 => ?_, fun j x ns l' h => ?_⟩
    · by_cases e : j = i
      · subst e
        have h1 : c.io[j]? = some b := h1
        rw [hi] at h1
        obtain rfl := Option.some.inj h1
        rw [List.getElem?_set_self hlt] at h2
        obtain rfl := Option.some.inj h2
        exact ⟨od, u, vs, upd_same, upd_same, hk.mono ex, reps.mono (List.prefix_refl _) ex _ hr⟩
      · rw [List.getElem?_set_ne (Ne.symm e)] at h2
        have n : b ≠ a := fun z => e (nodup_at I.nd h1 (z ▸ hi))
        have q := I.cell j b m' h1 h2
        cases m' with
        | lst l' => obtain ⟨k1, xs, k2, k3⟩ := q; exact ⟨(upd_ne n).trans k1, xs, (upd_ne n).trans k2, reps.mono (List.prefix_refl _) ex _ k3⟩
        | dct ks l' => obtain ⟨k1, xs, k2, k3, k4⟩ := q; exact ⟨(upd_ne n).trans k1, xs, (upd_ne n).trans k2, k3, reps.mono (List.prefix_refl _) ex _ k4⟩
        | obj x ns l' => obtain ⟨k1, dx, fs, k2, k3, k4⟩ := q; exact ⟨(upd_ne n).trans k1, dx, fs, (upd_ne n).trans k2, k3, reps.mono (List.prefix_refl _) ex _ k4⟩
        | dead => obtain ⟨o, q⟩ := q; exact ⟨o, (upd_ne n).trans q⟩
        | dcT ks l' => obtain ⟨k1, xs, k2, k3, k4, k5⟩ := q; exact ⟨(upd_ne n).trans k1, xs, (upd_ne n).trans k2, k3, fun e he => ex_t ex (k4 e he), reps.mono (List.prefix_refl _) ex _ k5⟩
        | lck ks l' => obtain ⟨o2, u2, vs2, k1, k2, k3, k4⟩ := q; exact ⟨o2, u2, vs2, (upd_ne n).trans k1, (upd_ne n).trans k2, k3.mono ex, reps.mono (List.prefix_refl _) ex _ k4⟩
    · by_cases e : j = i
      · subst e
        rw [List.getElem?_set_self hlt] at h; cases h
      · rw [List.getElem?_set_ne (Ne.symm e)] at h; exact I.cls j x ns l' h
  cases m with
  | dct ks l' =>
    cases hl
    obtain ⟨k1, kvs, k2, k3, k4⟩ := k
    exact ⟨_, k2, trivial, ⟨(fun _ z => nomatch z), (fun _ z => nomatch z)⟩, k1, fin _ _ k1 k2 ⟨kvs, rfl, k3, rfl⟩ k4⟩
  | dcT ks l' =>
    cases hl
    obtain ⟨k1, kvs, k2, k3, k4, k5⟩ := k
    exact ⟨_, k2, trivial, ⟨(fun _ z => nomatch z), (fun _ z => nomatch z)⟩, k1, fin _ _ k1 k2 ⟨kvs, rfl, k3, k4, rfl⟩ k5⟩
  | _ => cases hl
theorem unlock_SI {od : Obj} {u : HO} (n : NoSq u) (I : SI S c μ) (hi : c.io[i]? = some a) (hm : μ[i]? = some (.lck t l)) (hF : c.F a = some (.frz od u)) : SI S ⟨c.io, woF c.F a, upd c.H a u⟩ (μ.set i (unlM t l)) := by
  have hlt : i < μ.length := (List.getElem?_eq_some_iff.mp hm).1
  have fa : woF c.F a a = none := if_pos rfl
  have fb : ∀ b, c.F b = none → woF c.F a b = none := fun b h => by
    unfold woF; split
    · rfl
    · exact h
  refine ⟨fun b o e => ?_, by rw [List.length_set]; exact I.len, I.nd, fun j b m' h1 h2 => ?_, fun j x ns l' h => ?_⟩
  · have e : woF c.F a b = some o := e
    by_cases z : b = a
    · subst z; rw [show woF c.F b b = none from if_pos rfl] at e; cases e
    · unfold woF at e
      rw [if_neg z] at e
      exact (upd_ne z).trans (I.ex b o e)
  · by_cases e : j = i
    · subst e
      have h1 : c.io[j]? = some b := h1
      rw [hi] at h1
      obtain rfl := Option.some.inj h1
      rw [List.getElem?_set_self hlt] at h2
      obtain rfl := Option.some.inj h2
      obtain ⟨o2, u2, vs, k1, k2, k3, k4⟩ := I.cell j a _ hi hm
      rw [hF] at k1
      cases k1
      cases t with
      | k ks => obtain ⟨kvs, rfl, h5, rfl⟩ := k3; exact ⟨fa, kvs, upd_same, h5, reps.wo hF n _ k4⟩
      | t ks => obtain ⟨kvs, rfl, h5, h6, rfl⟩ := k3; exact ⟨fa, kvs, upd_same, h5, fun e he => wo_t hF n (h6 e he), reps.wo hF n _ k4⟩
    · rw [List.getElem?_set_ne (Ne.symm e)] at h2
      have nb : b ≠ a := fun z => e (nodup_at I.nd h1 (z ▸ hi))
      have q := I.cell j b m' h1 h2
      cases m' with
      | lst l' => obtain ⟨k1, xs, k2, k3⟩ := q; exact ⟨fb b k1, xs, (upd_ne nb).trans k2, reps.wo hF n _ k3⟩
      | dct ks l' => obtain ⟨k1, xs, k2, k3, k4⟩ := q; exact ⟨fb b k1, xs, (upd_ne nb).trans k2, k3, reps.wo hF n _ k4⟩
      | obj x ns l' => obtain ⟨k1, dx, fs, k2, k3, k4⟩ := q; exact ⟨fb b k1, dx, fs, (upd_ne nb).trans k2, k3, reps.wo hF n _ k4⟩
      | dead => obtain ⟨o, q⟩ := q; exact ⟨o, (upd_ne nb).trans q⟩
      | dcT ks l' => obtain ⟨k1, xs, k2, k3, k4, k5⟩ := q; exact ⟨fb b k1, xs, (upd_ne nb).trans k2, k3, fun e he => wo_t hF n (k4 e he), reps.wo hF n _ k5⟩
      | lck ks l' =>
        obtain ⟨o2, u2, vs2, k1, k2, k3, k4⟩ := q
        exact ⟨o2, u2, vs2, (show woF c.F a b = _ from (if_neg nb).trans k1), (upd_ne nb).trans k2, k3.wo hF n, reps.wo hF n _ k4⟩
  · by_cases e : j = i
    · subst e
      rw [List.getElem?_set_self hlt] at h
      cases t <;> cases h
    · rw [List.getElem?_set_ne (Ne.symm e)] at h; exact I.cls j x ns l' h
theorem lock_step {od : Obj} {u : HO} (hi : c.io[i]? = some a) (fa : c.F a = none) (ha : c.H a = some u) (s : Step S ⟨c.io, upd c.F a (.frz od u), upd c.H a (.frz od u)⟩ c1) : Step S c ⟨c1.io, woF c1.F a, upd c1.H a u⟩ := by
  have ma : a ∈ c.io := List.mem_of_getElem? hi
  refine ⟨s.pre, s.nd, fun b o e => ?_, fun p h1 h2 h3 => ?_, fun p o h1 h2 => ?_, fun p h1 h2 => ?_, fun p h => ?_⟩
  · have n : b ≠ a := fun z => by rw [z, fa] at e; cases e
    show woF c1.F a b = some o
    unfold woF
    rw [if_neg n]
    exact s.exF b o ((upd_ne n).trans e)
  · have n : p ≠ a := fun z => by
      rw [z] at h3; exact h3 (if_pos rfl)
    refine s.frz p (by show upd c.H a _ p ≠ none; rw [upd_ne n]; exact h1) ((upd_ne n).trans h2) fun z => h3 ?_
    show woF c1.F a p = none
    unfold woF
    rw [if_neg n]; exact z
  · have n : p ≠ a := fun z => h2 (z ▸ ma)
    exact (upd_ne n).trans (s.keep p o ((upd_ne n).trans h1) h2)
  · have n : p ≠ a := fun z => h2 (z ▸ ma)
    exact (upd_ne n).symm.trans (s.new p h1 h2)
  · show upd c1.H a u p ≠ none
    by_cases n : p = a
    · rw [n, upd_same]; exact fun z => nomatch z
    · rw [upd_ne n]
      exact s.som p (by show upd c.H a _ p ≠ none; rw [upd_ne n]; exact h)
/-- where the dict is found -/
abbrev LkAt := En → List M → Option Nat
def lkOf (f : LkAt) (env : En) (μ : List M) : Option (Nat × LK × List D) := (f env μ).bind fun i => (μ[i]?).bind fun m => (lockM m).map fun t => (i, t)
def dLock (f : LkAt) (d : DE) : DE := fun env μ => match lkOf f env μ with
  | some (i, t, l) => match d env (μ.set i (.lck t l)) with
    | .ok r μ2 => match μ2[i]? with
      | some (.lck t2 l2) => .ok r (μ2.set i (unlM t2 l2))
      | _ => .stuck
    | _ => .stuck
  | none => .stuck
theorem lkOf_at {f : LkAt} {env : En} (I : SI S c μ) (h : lkOf f env μ = some (i, t, l)) : ∃ a m, c.io[i]? = some a ∧ μ[i]? = some m ∧ lockM m = some (t, l) := by
  unfold lkOf at h
  obtain ⟨j, _, h⟩ := Option.bind_eq_some_iff.mp h
  obtain ⟨m, e, h⟩ := Option.bind_eq_some_iff.mp h
  obtain ⟨x, e2, h⟩ := Option.map_eq_some_iff.mp h
  cases h
  have lt : i < c.io.length := by rw [I.len]; exact (List.getElem?_eq_some_iff.mp e).1
  exact ⟨_, m, List.getElem?_eq_getElem lt, e, e2⟩
variable {X : Cx} {e : Expr} {d : DE}
theorem pd_lock (f : LkAt) (h : PDE X S W e d) : PDE X S W e (dLock f d) := by
  obtain ⟨te, pe, ke⟩ := h.ex
  have pl : PE X e (tLockE te) := ⟨fun pins s σ H Q I hq => by
    obtain ⟨a, u, hd, mu, hq⟩ := hq
    obtain ⟨od, I1⟩ := I.lock hd mu
    refine thn (pe.run pins s σ _ _ I1 (hq od)) fun v s1 ⟨x, H', I2, r, e2, q⟩ => ?_
    exact ⟨x, _, I2.unlock e2 (I.nofrz hd mu), r, q⟩⟩
  refine ⟨_, pl, fun env σ c μ Q I en q => ?_⟩
  unfold dLock at q
  cases ef : lkOf f env μ with
  | none => rw [ef] at q; exact q.elim
  | some p =>
    obtain ⟨i, t, l⟩ := p
    rw [ef] at q
    dsimp only at q
    obtain ⟨a, m, hi, hm, hl⟩ := lkOf_at I ef
    obtain ⟨u, ha, mu, nq, fa, hSI⟩ := lock_SI I hi hm hl
    refine ⟨a, u, ha, mu, fun od => ?_⟩
    have en1 : EnvOk S ⟨c.io, upd c.F a (.frz od u), upd c.H a (.frz od u)⟩ env σ := ⟨en.len, fun j d e => by
      obtain ⟨v, h1, h2⟩ := en.at_ j d e
      exact ⟨v, h1, rep.mono (List.prefix_refl _) (Ex.new fa) d h2⟩⟩
    refine ke env σ _ _ (fun v H' => H' a = some (.frz od u) ∧ Q v (upd H' a u)) (hSI od) en1 ?_
    cases ed : d env (μ.set i (.lck t l)) with
    | ok r μ2 =>
      rw [ed] at q
      dsimp only at q
      intro v c' s' I' r'
      have fa' : c'.F a = some (.frz od u) := s'.exF a _ upd_same
      refine ⟨I'.ex _ _ fa', ?_⟩
      cases e2 : μ2[i]? with
      | none => rw [e2] at q; exact q.elim
      | some m2 =>
        rw [e2] at q
        cases m2 with
        | lck t2 l2 =>
          have hi' : c'.io[i]? = some a := by
            obtain ⟨z, ez⟩ := s'.pre
            rw [← ez]
            exact (List.getElem?_append_left (List.getElem?_eq_some_iff.mp hi).1).trans hi
          exact q v _ (lock_step hi fa ha s') (unlock_SI nq I' hi' e2 fa') (rep.wo fa' nq r r')
        | _ => exact q.elim
    | ex _ _ _ _ => rw [ed] at q; exact q.elim
    | stuck => rw [ed] at q; exact q.elim
end
end DL
namespace DL
open PySem PySem.Spec PyProof.Rows L2 LTup
/-! ### for k, x in enumerate(xs); xs.extend(ys) -/
def enumD (l : List D) : List D := l.zipIdx.map fun p => D.tup [.int (p.2 : Nat), p.1]
def enumO (μ : List M) : List D → Option (List D × (List M → Prop))
  | [.tup _] => none
  | [x] => (seqOf μ x).map fun l => (enumD l, fun μ2 => seqOf μ2 x = some l)
  | _ => none
def iEnumD (ds : DA) : DI := fun env μ => (ds env μ).bind fun l μ1 => match enumO μ1 l with
  | some r => .ok r μ1
  | none => .stuck
def sExt (da de : DE) : DS := fun env μ => (da env μ).bindS env fun x μ1 => match x with
  | .cel i => match μ1[i]? with
    | some (.lst _) => (de env μ1).bindS env fun y μ2 => match μ2[i]?, lstOf μ2 y with
      | some (.lst l), some z => if l.length + z.length ≤ 100000 then .nx env (μ2.set i (.lst (l ++ z))) else .stuck
      | _, _ => .stuck
    | _ => .stuck
  | _ => .stuck
section
variable {X : Cx} {S : Sx} {W : WX} {a e : Expr} {da d2 : DE} {ds : DA} {pos p tpos apos cpos : Pos}
theorem enum_walk {K : PySem.W.Frag} {a : Addr} {n : Nat} : Walk (Ite K a) n (fun H => ∃ xs, SqL K H a xs ∧ xs.length = n) (fun i H v H' => ∃ T x, v = .ref T ∧ H T = none ∧ H' = upd H T (.tup [.int (i : Nat), x]) ∧ ∀ xs, SqL K H a xs → xs[i]? = some x) :=
  ⟨fun i _ hi ⟨xs, q, e⟩ => ⟨xs, xs[i]'(by omega), q, by simp⟩, fun _ ⟨xs, q, e⟩ => ⟨xs, q, Nat.le_of_eq e⟩, fun _ _ _ _ _ _ y => y⟩
theorem pdi_enum {elts : List Expr} {kk : Nat} (hK : X.K = S.K) (hg : Gl X "enumerate") (hm : X.mg "enumerate" = none) (ha : PDA X S W [a] ds) (hs : starEach [a] X.env = [(false, eval a X.env)] := by rfl) :
    PDI X S W (.Tuple elts kk tpos) (.Call (.Name "enumerate" p) [a] [] pos) (iEnumD ds) := by
  obtain ⟨ta, pa, ka⟩ := ha.ex
  refine ⟨_, pi_enum hg hm pa hs, fun env σ c μ R I en q => ?_⟩
  refine (show ta σ c.H fun vs H1 => ∃ a xs, vs = [.ref a] ∧ SqL X.K H1 a xs ∧ R (Ite X.K a) H1 from ?_)
  refine bindAI (fun Q' => ka env σ c μ Q' I en) q fun l μ1 v c1 s1 I1 r1 q1 => ?_
  have go : ∀ (x : D), l = [x] → (∀ t, x ≠ .tup t) → ∀ xs, seqOf μ1 x = some xs → IQ S W σ c1 R (.ok (enumD xs, fun μ2 => seqOf μ2 x = some xs) μ1) → ∃ a xs, v = [.ref a] ∧ SqL X.K c1.H a xs ∧ R (Ite X.K a) c1.H := fun x el nt xs es q => by
    subst el
    obtain ⟨u1, r0, rfl, h1, h2⟩ := r1.uncons
    cases h2.eq_nil
    obtain ⟨p1, us, rfl, k1, k2⟩ := seq_same I1 h1 es nt
    rw [hK]
    refine ⟨p1, us, rfl, k1, q _ c1 I1.step I1 ⟨(fun H => ∃ xs2, SqL S.K H p1 xs2 ∧ xs2.length = (enumD xs).length), (fun i H v H' => ∃ T x, v = .ref T ∧ H T = none ∧ H' = upd H T (.tup [.int (i : Nat), x]) ∧ ∀ xs, SqL S.K H p1 xs → xs[i]? = some x), enum_walk, fun c2 μ2 s2 I2 e2 => ?_, fun i z H' c2 μ2 hi s2 I2 e2 y => ?_⟩⟩
    · obtain ⟨p1', us', ep, k3, k4⟩ := seq_same I2 (s2.rep h1) e2 nt
      cases ep
      exact ⟨us', k3, by rw [← k4.len]; simp [enumD]⟩
    · obtain ⟨T, y1, rfl, hT, rfl, g1⟩ := y
      obtain ⟨p1', us', ep, k3, k4⟩ := seq_same I2 (s2.rep h1) e2 nt
      cases ep
      obtain ⟨d1, n1, n2⟩ := k4.getV (g1 us' k3)
      obtain ⟨I3, s3⟩ := I2.fresh (o := .tup [.int (i : Nat), y1]) hT
      refine ⟨_, .tup [.int (i : Nat), d1], rfl, s3, I3, ?_, ?_⟩
      · show (enumD xs)[i]? = _
        simp [enumD, List.getElem?_map, List.getElem?_zipIdx, n1]
      · unfold rep
        exact ⟨T, _, rfl, st_of upd_same, .cons (rep_int.mpr rfl) (.cons (s3.rep n2) .nil)⟩
  have q1 : IQ S W σ c1 R (match enumO μ1 l with | some r => .ok r μ1 | none => .stuck) := q1
  unfold enumO at q1
  split at q1
  · rename_i r er
    split at er
    · cases er
    · rename_i x nt
      obtain ⟨xs, es, rfl⟩ := Option.map_eq_some_iff.mp er
      exact go x rfl (fun t e => nt t (by rw [e])) xs es q1
    · cases er
  · exact q1.elim
theorem pds_ext (hK : X.K = S.K) (ha : PDE X S W a da) (he : PDE X S W e d2)
    (h1 : attributeBase a "extend" X.env (eval a X.env) = eval a X.env := by rfl)
    (h2 : (((backTo cpos (starEach [e] X.env)).all (fun x => !x.1) && (backToKw cpos (keywordEach [] X.env)).all (fun x => x.1.isSome)) && decide (([e] : List Expr).length + ([] : List Keyword).length + (if ([] : List Keyword).isEmpty = true then 0 else 1) < 30)) = true := by rfl)
    (h3 : (apos.endLine == cpos.line) = true := by rfl) (h4 : starEach [e] X.env = (false, eval e X.env) :: starEach [] X.env := by rfl)
    (h5 : (backTo cpos (starEach [] X.env)).any (·.1) = false := by rfl) (hs : swapsWith (.Call (.Attribute a "extend" apos) [e] [] cpos) none pos.line X.env = pure false := by rfl) :
    PDS X S W (.Expr (.Call (.Attribute a "extend" apos) [e] [] cpos) pos) (sExt da d2) := by
  obtain ⟨ta, pa, ka⟩ := ha.ex
  obtain ⟨tb, pb, kb⟩ := he.ex
  refine ⟨_, ps_expr (pe_bm PySem.F.plainAttrs_list PySem.F.slot_list_extend PySem.F.type_list_extend mt_extend pa (pa_cons pb pa_nil h4) h1 h2 h3 h4 h5) hs, fun env σ c μ E I en q => ?_⟩
  refine (show ta σ c.H fun x H1 => tyV X.K "list" x H1 ∧ tb σ H1 fun y H2 => rExtend x [y] H2 fun _ H3 => E.nx σ H3 from ?_)
  refine bindES en (fun Q' => ka env σ c μ Q' I en) q fun x μ1 v c1 s1 I1 r1 q1 => ?_
  cases x with
  | cel i =>
    try dsimp only at q1
    cases e1 : μ1[i]? with
    | none => rw [e1] at q1; exact False.elim q1
    | some m =>
      rw [e1] at q1
      cases m with
      | lst l0 =>
        try dsimp only at q1
        obtain ⟨p, xs0, rfl, hi, hf, hH, hr⟩ := cel_lst I1 r1 e1
        refine ⟨Or.inl ⟨rfl, _, sq_of hH⟩, ?_⟩
        refine bindES (en.step s1) (fun Q' => kb env σ c1 μ1 Q' I1 (en.step s1)) q1 fun y μ2 u c2 s2 I2 r2 q2 => ?_
        split at q2
        · rename_i l z e2 e3
          by_cases hl : l.length + z.length ≤ 100000
          · rw [if_pos hl] at q2
            obtain ⟨p2, xs, ep, hi2, hf2, hH2, hr2⟩ := cel_lst I2 (s2.rep r1) e2
            cases ep
            obtain ⟨b, zs, rfl, hB, hz⟩ := lst_at I2 r2 e3
            refine ⟨p, b, xs, zs, rfl, rfl, hH2, hB, by rw [← hr2.len, ← hz.len]; exact sz_of hl, ?_⟩
            obtain ⟨I3, s3⟩ := I2.write (o := .lst (xs ++ zs)) (m := .lst (l ++ z)) hi2 hf2 ⟨hf2, xs ++ zs, upd_same, hr2.append hz⟩
            exact q2 σ _ s3 I3 (((en.step s1).step s2).step s3)
          · rw [if_neg hl] at q2; exact False.elim q2
        · exact False.elim q2
      | _ => exact False.elim q1
  | _ => exact False.elim q1
end
end DL
set_option maxHeartbeats 1000000
/-! sorted(xs, key=f), f a def -/
namespace LKey
open PySem PySem.W PySem.Calls PySem.Spec PyProof.Rows L2 DL
theorem free_at {h : Heap} {k : Addr} {o : Obj} (e : h.get? k = some o) : ∃ g : Heap, g.get? k = none ∧ ∀ b, b ≠ k → g.get? b = h.get? b := by
  refine ⟨h.update k fun o => { o with data := .freed }, ?_, fun b n => Heap.get?_update_ne _ _ _ _ n⟩
  unfold Heap.get?
  rw [Heap.objs_update_self]
  cases h.objs[k]? <;> rfl
section
variable {X : Cx} {pins : List (Addr × Obj)} {σ : L2.St} {H : Hp} {s : Shared} {h' : Heap} {t' : Nat} {ch : List Addr} {a : Addr} {ob : HO}
/-- records of ours have turned, one of them becomes tracked -/
theorem turn_take (I : Inv X pins σ H s) (k : ∀ b o, b ∉ ch → s.heap.get? b = some o → h'.get? b = some o) (hf : ∀ b ∈ ch, FpOk X pins H b) (ha : a ∈ ch) (new : ObjOk X.prog X.w (upd H a ob) h' a ob) :
    Inv X pins σ (upd H a ob) { s with heap := h', toks := t' } := by
  have na : H a = none := (hf a ha).1
  have off : ∀ b u, H b = some u → b ∉ ch := fun b u e m => by rw [(hf b m).1] at e; cases e
  have up : ∀ b u, H b = some u → upd H a ob b = some u := fun b u e => by rw [upd_ne (ne_of_none e na)]; exact e
  refine I.step (g' := s.gens) (d' := s.drawn) (ch := ch) (fun b m => ⟨(hf b m).2.2.2.1, (hf b m).2.1, (hf b m).2.2.2.2.1, (hf b m).2.2.2.2.2⟩) (fun b o _ _ m e _ => k b o m e) (fun b o _ _ m e _ => ⟨o.slots, k b o m e⟩)
    (fun b o m _ n => by rw [upd_ne (fun z => m (by rw [z]; exact ha))]; exact n) (fun b o m e => ⟨o, k b o m e⟩) (fun b _ e => up b _ e) (fun b _ _ e => up b _ e) (fun b ps e => ⟨#[], by rw [up b _ e]; simp⟩) (fun m hm => ?_) (fun b u e => ?_) I.bare
  · obtain ⟨o, es, ep, ho, r⟩ := hm
    exact ⟨o, es, ep, k _ o (fun z => (hf _ z).2.1 rfl) ho, r⟩
  · by_cases n : b = a
    · subst n
      rw [upd_same] at e
      obtain rfl := Option.some.inj e
      exact new
    · rw [upd_ne n] at e
      refine (I.hok b u e).stay (fun c v hc q => k c v ?_ q) (fun c q => up c _ q) fun c xs q => up c _ q
      rcases hc with z | z
      · rw [z]; exact off b u e
      · exact off c _ z
end
/-- the loop's invariant is the reading's choice: turn, keys so far, abstract heap -/
def rSortK (K : PySem.W.Frag) (f : Addr) (sp : Sp) : List V → List V → Hp → VK → Prop := fun xs zs H Q => ∃ (l : Addr) (vs : List V), xs = [.ref l] ∧ zs = [.ref f] ∧ SqL K H l vs ∧ vs.length ≤ 100000 ∧ ∃ Wl : Nat → List V → Hp → Prop, Wl 0 [] H ∧
  (∀ i ks H' x, vs[i]? = some x → Wl i ks H' → sp [x] H' (fun k H2 => Wl (i + 1) (ks ++ [k]) H2) (WE wNo [])) ∧
  (∀ ks H', Wl vs.length ks H' → ∃ ds : List (V × D), ds.map Prod.fst = vs ∧ Paired (fun k (p : V × D) => Dp K H' k (py p.2)) ks ds ∧ (∀ b ∈ ds, ∀ b' ∈ ds, alike (py b.2) (py b'.2) = true) ∧ Sortable (ds.map fun b => py b.2) ∧ (∀ b ∈ ds, dep b.2 ≤ 64) ∧
    ∀ p, H' p = none → Q (.ref p) (upd H' p (.lst ((ds.mergeSort (fun a b => ltLe a.2 b.2)).map Prod.fst))))
section
variable {X : Cx} {md : Bool} {k : Nat} {f : Addr} {fd : FuncData} {ps : List Str} {sp : Sp}
theorem cr_sortK (hu : X.A.units + 80 < cLine) (F : FnOk X.prog X.w X.K X.mg X.base (L2M.CX md X.prog X.w) k f fd ps sp) (hr : Room (k + 2) X.A) (hb : Binds X.K fd ps []) : CallRK X (.builtin "sorted") ["key"] (rSortK X.K f sp) := by
  intro pins s σ H xs zs us ws Q I rx rz h
  obtain ⟨l, vs, rfl, rfl, hl, hz, Wl, w0, w1, w2⟩ := h
  obtain ⟨its, rv, pl, hz2⟩ := I.list hl
  obtain ⟨u, rfl, ru⟩ := vals1 rx
  obtain rfl : u = Value.ref l := ru
  obtain ⟨u, rfl, ru⟩ := vals1 rz
  obtain rfl : u = Value.ref f := ru
  have lv : its.length = vs.length := rv.length.symm
  have hzl : its.length ≤ sizeLine := by rw [lv]; exact sz_of hz
  refine sorted_of_sort (kw := [(Str.ofString "key", .ref f)]) pl.isList hzl (ksk_s1 _ _) (fun x => ksk_l1 _ _) fun E' => ?_
  rw [ksk_t1]
  generalize ea : s.heap.objs.size + 1 = a
  have ca : (copyHeap s.heap its).get? a = some (seqObj "list" its.toArray 0) := ea ▸ copyHeap_at s.heap its
  obtain ⟨e1, ho1⟩ : ∃ e1, ((copyHeap s.heap its).update a (Obj.mapSeq fun _ => (#[] : Array Value))).get? a = some (seqObj "list" #[] e1) := ⟨_, get?_update_seq ca fun _ => #[]⟩
  unfold ksk_tree
  refine wpAny_bind (listItems_at (s := { s with heap := copyHeap s.heap its }) ca rfl ?_)
  refine wpAny_bind (listUpdate_at (s := { s with heap := copyHeap s.heap its }) ca rfl ?_ (by rw [List.size_toArray]; exact hzl) (Nat.zero_le _))
  refine wpAny_bind (seqEpoch_at ho1 rfl ?_)
  refine wpAny_bind (wpAny_newTuple ?_ (by show its.length ≤ _; exact hzl))
  refine wpAny_bind (wpAny_newList ?_ (Nat.zero_le _))
  refine wpAny_holding ?_
  generalize eh : ((((copyHeap s.heap its).update a (Obj.mapSeq fun _ => (#[] : Array Value))).push (seqObj "tuple" its.toArray 0))) = hT
  have lc : (copyHeap s.heap its).objs.size = s.heap.objs.size + 2 := by
    unfold copyHeap
    rw [size_push', Heap.size_update, size_push']
  have lT : hT.objs.size = s.heap.objs.size + 3 := by rw [← eh, size_push', Heap.size_update, lc]
  have oldT : ∀ b o, s.heap.get? b = some o → (hT.push (seqObj "list" #[] 0)).get? b = some o := fun b o e => by
    refine Heap.get?_push_of_some _ ?_
    rw [← eh]
    exact Heap.get?_push_of_some _ ((Heap.get?_update_ne _ _ _ _ (by rw [← ea]; exact Nat.ne_of_lt (Nat.lt_succ_of_lt (Heap.lt_size e)))).trans (copyHeap_old e))
  have aT : (hT.push (seqObj "list" #[] 0)).get? a = some (seqObj "list" #[] e1) := Heap.get?_push_of_some _ (by rw [← eh]; exact Heap.get?_push_of_some _ ho1)
  generalize ek : hT.objs.size = kS
  have kT : (hT.push (seqObj "list" #[] 0)).get? kS = some (seqObj "list" #[] 0) := ek ▸ Heap.get?_push_size _ rfl
  have ne : kS ≠ a := by omega
  have fa := I.fpOk (H' := H) (b := a) (by omega) (I.hok.fresh (by omega))
  have fk := I.fpOk (H' := H) (b := kS) (by omega) (I.hok.fresh (by omega))
  have I0 : Inv X pins σ H { s with heap := hT.push (seqObj "list" #[] 0) } := I.kept (t' := s.toks) oldT
  show wpAny (model X.prog X.w) X.A.in1.in1 (ksk_rest a (.ref f) false its.toArray e1 (.ref kS)) _ E' { s with heap := hT.push (seqObj "list" #[] 0) }
  unfold ksk_rest
  refine wpAny_bind (wpAny_rule ?_)
  first
    | rw [List.forIn_toArray]
    | (rw [← Array.forIn_toList]; simp only [List.toList_toArray])
  refine wpAny_bind (ksk_fold (fun i s' => ∃ H' ks kA e, Inv X pins σ H' s' ∧ H' kS = none ∧ H' a = none ∧ s'.heap.get? kS = some (seqObj "list" kA e) ∧ s'.heap.get? a = some (seqObj "list" #[] e1) ∧ Vals ks kA.toList ∧ ks.length = i ∧ Wl i ks H') its 0 _
    ⟨H, [], #[], 0, I0, fk.1, fa.1, kT, aT, .nil, rfl, w0⟩ (fun j x s' hx q => ?_) fun s' q => ?_)
  · obtain ⟨H', ks, kA, e, I', nk, na, gk, ga, vk, lk, w⟩ := q
    simp only [Nat.zero_add] at w lk ⊢
    have hj : j < its.length := (List.getElem?_eq_some_iff.mp hx).1
    obtain ⟨y, hy, ry⟩ : ∃ y, vs[j]? = some y ∧ RelV y x := by
      have hj2 : j < vs.length := by omega
      obtain ⟨u, hu, ru⟩ := rv.get (List.getElem?_eq_getElem hj2)
      rw [hx] at hu
      cases hu
      exact ⟨_, List.getElem?_eq_getElem hj2, ru⟩
    have hsp := w1 j ks H' y hy w
    have J : Inv X ((kS, seqObj "list" kA e) :: (a, seqObj "list" #[] e1) :: pins) σ H' s' := I'.pins_of fun p hp => by
      rcases List.mem_cons.mp hp with rfl | hp
      · exact ⟨gk, nk, fk.2.1, fk.2.2.1, fun v z => nomatch z⟩
      · rcases List.mem_cons.mp hp with rfl | hp
        · exact ⟨ga, na, fa.2.1, fa.2.2.1, fun v z => nomatch z⟩
        · exact I'.pin p (List.mem_append_right _ hp)
    refine wpAny_bind (wpAny_attempt (wpAny_mono (run_atA (X := X.nox) (A' := X.A.in1.in1) rfl F (hr.in1.in1.mono (by omega)) takesNo hb (J.wish _) (vs := [y]) (.cons ry .nil) hsp) (fun v s2 q => ?_) fun _ _ z => z.elim))
    obtain ⟨kv, H2, J2, rk, w'⟩ := q
    have J2 : Inv X ((kS, seqObj "list" kA e) :: (a, seqObj "list" #[] e1) :: pins) σ H2 s2 := J2.unwish
    obtain ⟨gk2, nk2, _⟩ := J2.pin (kS, seqObj "list" kA e) (List.mem_append_right _ List.mem_cons_self)
    obtain ⟨ga2, na2, _⟩ := J2.pin (a, seqObj "list" #[] e1) (List.mem_append_right _ (List.mem_cons_of_mem _ List.mem_cons_self))
    have I2 : Inv X pins σ H2 s2 := J2.pins_of fun p hp => J2.pin p (List.mem_append_right _ (List.mem_cons_of_mem _ (List.mem_cons_of_mem _ hp)))
    have sz : kA.size = j := by rw [← Array.length_toList, ← vk.length, lk]
    try dsimp only
    refine wpAny_bind (listUpdate_at gk2 rfl ?_ (by rw [sz]; omega) (by rw [Array.size_push, sz]; omega))
    obtain ⟨c2, hc2⟩ : ∃ c2, (s2.heap.update kS (Obj.mapSeq (·.push v))).get? kS = some (seqObj "list" (kA.push v) c2) := ⟨_, get?_update_seq gk2 (·.push v)⟩
    have oth : ∀ b o, b ≠ kS → s2.heap.get? b = some o → (s2.heap.update kS (Obj.mapSeq (·.push v))).get? b = some o := fun b o n e => (Heap.get?_update_ne _ _ _ _ n).trans e
    have I3 : Inv X pins σ H2 { s2 with heap := s2.heap.update kS (Obj.mapSeq (·.push v)) } := I2.turned (t' := s2.toks) oth nk2 fk.2.1 fk.2.2.2.1 fk.2.2.2.2.1 fk.2.2.2.2.2
    exact wpAny_pure ⟨rfl, H2, ks ++ [kv], kA.push v, c2, I3, nk2, na2, hc2, oth _ _ (Ne.symm ne) ga2, by rw [Array.toList_push]; exact vk.append (.cons rk .nil), by rw [List.length_append, lk]; rfl, w'⟩
  · obtain ⟨H', ks, kA, e, I', nk, na, gk, ga, vk, lk, w⟩ := q
    rw [Nat.zero_add, lv] at w lk
    obtain ⟨ds, e2, pk, hal, hso, hdp, q⟩ := w2 ks H' w
    have ld : ds.length = vs.length := by rw [← e2, List.length_map]
    have hk : EachIs (fun v (d : PyData) => ∃ as, Reads s'.heap v d as) kA.toList (ds.map fun b => py b.2) := by
      clear w q w1 w2 w0
      have go : ∀ (ks : List V) (us : List Value) (ds : List (V × D)), Vals ks us → Paired (fun k (p : V × D) => Dp X.K H' k (py p.2)) ks ds → EachIs (fun v (d : PyData) => ∃ as, Reads s'.heap v d as) us (ds.map fun b => py b.2) := by
        intro ks us ds r p
        induction p generalizing us with
        | nil => cases r; exact .nil
        | cons h _ ih =>
          cases r with
          | cons r1 r2 => exact .cons (Dp.reads I' _ _ _ h r1) (ih _ r2)
      exact go _ _ _ vk pk
    have e0 : EachIs (fun u (b : V × D) => RelV b.1 u) its ds := each_of_vals Prod.fst (by rw [e2]; exact rv) fun b u h => h
    obtain ⟨g, g1, g2⟩ := free_at gk
    refine wpAny_bind (listItems_at gk rfl ?_)
    have hsz : kA.size = its.length := by rw [← Array.length_toList, ← vk.length, lk, lv]
    have hal' : AllAlike (ds.map fun b => py b.2) := fun d hd d' hd' => by
      obtain ⟨b, m, rfl⟩ := List.mem_map.mp hd
      obtain ⟨b', m', rfl⟩ := List.mem_map.mp hd'
      exact hal b m b' m'
    have hu' : ∀ d, d ∈ ds.map (fun b => py b.2) → X.A.in1.in1.units + d.depth < cLine := fun d hd => by
      obtain ⟨b, m, rfl⟩ := List.mem_map.mp hd
      have := hdp b m
      rw [dep_py]
      show X.A.units + 1 + 1 + _ < _
      omega
    refine keyH_end (κ := dataKind s'.heap (ds.map fun b => py b.2)) (h₁ := g) (fun b o hb he => ?_) g1 gk ga ne (SortsAt.data (s := s') hk hal' hso hu') hsz hzl fun h3 tk3 c k3 n3 => ⟨rfl, ?_⟩
    · have n : b ≠ kS := fun z => by rw [z, g1] at he; cases he
      exact (g2 b n).symm.trans he
    · have hv : EachIs (fun u (b : V × D) => RelV b.1 u) (sortVals (dataKind s'.heap (ds.map fun b => py b.2)) false kA.toList its) (ds.mergeSort (dataLe false fun b => py b.2)) :=
        keyedOut_each (fun b : V × D => py b.2) ⟨s'.heap, kA.toList, hal', rfl, hk⟩ e0
      have hv2 : Vals ((ds.mergeSort (fun a b => ltLe a.2 b.2)).map Prod.fst) (sortVals (dataKind s'.heap (ds.map fun b => py b.2)) false kA.toList its) := vals_of_each Prod.fst hv
      have J : Inv X pins σ (upd H' a (.lst ((ds.mergeSort (fun a b => ltLe a.2 b.2)).map Prod.fst))) { s' with heap := h3, toks := tk3 } := turn_take (ch := [kS, a]) I' (fun b o m he => k3 b o (fun z => m (by simp [z])) ((g2 b (fun z => m (by simp [z]))).trans he)) (fun b m => ?_) (by simp)
        ⟨by rw [List.length_map, List.length_mergeSort, ld]; exact sz_of hz, _, c, hv2, n3⟩
      · exact ⟨.ref a, _, J, rfl, q a na⟩
      · rcases List.mem_cons.mp m with rfl | m
        · exact ⟨nk, fk.2⟩
        · rw [List.mem_singleton.mp m]; exact ⟨na, fa.2⟩
end
end LKey
set_option maxHeartbeats 1000000
namespace DL
open PySem PySem.Spec PyProof.Rows L2
/-! ### sorted(xs, key=f), the data's level -/
def KeysD (G : GF) (μ : List M) (l ks : List D) : Prop := ks.length = l.length ∧ ∀ (i : Nat) (d k : D), l[i]? = some d → ks[i]? = some k → G [d] μ = .ok k μ
def sortBy (ks l : List D) : List D := ((l.zip ks).mergeSort (fun a b => ltLe a.2 b.2)).map Prod.fst
open Classical in
noncomputable def dSortK (G : GF) (da : DE) : DE := fun env μ => (da env μ).bind fun x μ1 => match lstOf μ1 x with
  | some l => if h : ∃ ks, KeysD G μ1 l ks ∧ sortOk ks = true ∧ l.length ≤ 100000 then .ok (.lst (sortBy (choose h) l)) μ1 else .stuck
  | none => .stuck
theorem sortOk_at {l : List D} (h : sortOk l = true) : plains l = true ∧ (∀ a ∈ l, ∀ b ∈ l, PySem.W.alike (py a) (py b) = true) ∧ PySem.W.Sortable (l.map py) ∧ ∀ a ∈ l, dep a ≤ 64 := by
  unfold sortOk at h
  obtain ⟨hp, h⟩ := Bool.and_eq_true_iff.mp h
  obtain ⟨ha, hs⟩ := Bool.and_eq_true_iff.mp h
  rw [List.all_eq_true] at ha
  refine ⟨hp, fun a m b m' => ?_, ?_, fun a m => of_decide_eq_true (Bool.and_eq_true_iff.mp (ha a m)).1⟩
  · have := (Bool.and_eq_true_iff.mp (ha a m)).2
    rw [List.all_eq_true] at this
    exact this b m'
  · rcases Bool.or_eq_true_iff.mp hs with hs | hs
    · refine .inl fun d m' => ?_
      obtain ⟨b, m, rfl⟩ := List.mem_map.mp m'
      have := List.all_eq_true.mp hs b m
      split at this
      · unfold py pys
        exact ⟨_, _, rfl⟩
      · cases this
    · refine .inr fun d m' => ?_
      obtain ⟨b, m, rfl⟩ := List.mem_map.mp m'
      have t := List.all_eq_true.mp hs b m
      have t2 := plains_mem hp b m
      cases b <;> first | (cases t; done) | (unfold plain at t2; cases t2; done) | (unfold py; exact ⟨(fun z => nomatch z), (fun _ z => nomatch z)⟩)
theorem keys_uniq {G : GF} {μ : List M} {l ks ks' : List D} (h : KeysD G μ l ks) (h' : KeysD G μ l ks') : ks = ks' := by
  apply List.ext_getElem?
  intro i
  by_cases hi : i < l.length
  · have e := h.2 i _ _ (List.getElem?_eq_getElem hi) (List.getElem?_eq_getElem (h.1 ▸ hi))
    have e' := h'.2 i _ _ (List.getElem?_eq_getElem hi) (List.getElem?_eq_getElem (h'.1 ▸ hi))
    rw [e] at e'
    rw [List.getElem?_eq_getElem (h.1 ▸ hi), List.getElem?_eq_getElem (h'.1 ▸ hi)]
    injection e' with e'
    rw [e']
  · rw [List.getElem?_eq_none (by rw [h.1]; omega), List.getElem?_eq_none (by rw [h'.1]; omega)]
section
variable {X : Cx} {S0 : Sx} {n : Nat} {W : WX} {a : Expr} {da : DE} {pos p kp fp : Pos} {k kr : Nat} {x : Str} {G : GF} {md : Bool}
theorem reps_trip {S : Sx} {io : List Addr} {F : Hp} : ∀ (ts : List (V × (D × D))), (∀ t ∈ ts, rep S io F t.2.1 t.1) → reps S io F (ts.map fun t => t.2.1) (ts.map fun t => t.1)
  | [], _ => .nil
  | t :: ts, h => .cons (h t List.mem_cons_self) (reps_trip ts fun u m => h u (List.mem_cons_of_mem _ m))
theorem reps_zip {S : Sx} {io : List Addr} {F : Hp} : ∀ {l : List D} {vs : List V} (ks : List D), ks.length = l.length → reps S io F l vs → ∃ ts : List (V × (D × D)), ts.map (fun t => t.1) = vs ∧ ts.map (fun t => t.2) = l.zip ks ∧ ts.map (fun t => t.2.2) = ks ∧ ∀ t ∈ ts, rep S io F t.2.1 t.1
  | [], vs, ks, e, r => by
    cases r.eq_nil
    cases ks with
    | nil => exact ⟨[], rfl, rfl, rfl, fun _ m => nomatch m⟩
    | cons _ _ => cases e
  | d :: l, vs, [], e, r => by cases e
  | d :: l, vs, k :: ks, e, r => by
    obtain ⟨v, vs', rfl, h1, h2⟩ := r.uncons
    obtain ⟨ts, e1, e2, e3, h⟩ := reps_zip ks (Nat.succ.inj e) h2
    refine ⟨(v, (d, k)) :: ts, by rw [List.map_cons, e1], by rw [List.map_cons, e2]; rfl, by rw [List.map_cons, e3], fun t m => ?_⟩
    rcases List.mem_cons.mp m with rfl | m
    · exact h1
    · exact h t m
open Classical in
theorem pd_sortK (hK : X.K = S0.K) (C : CalD md X.prog X.w X.K X.mg X.base (at0 S0 0) k x 1 G []) (hr : Room kr X.A) (hk : k + 2 ≤ kr) (hu : X.A.units + 80 < cLine) (hg : Gl X "sorted") (hm : X.mg "sorted" = none) (hgx : Gl X x) (ha : PDE X (at0 S0 n) W a da)
    (hdb : (x == ("__debug__" : Str)) = false := by decide) (he : backTo pos (starEach [a] X.env) = (false, eval a X.env) :: backTo pos (starEach [] X.env) := by rfl) (hpl : (backTo pos (starEach [a] X.env)).any (·.1) = false := by rfl) (hs1 : starEach [a] X.env = (false, eval a X.env) :: starEach [] X.env := by rfl)
    (hall : (backToKw pos (keywordEach [⟨some "key", .Name x fp, kp⟩] X.env)).all (·.1.isSome) = true := by rfl) (hnone : (backToKw pos (keywordEach [⟨some "key", .Name x fp, kp⟩] X.env)).any (·.1.isNone) = false := by rfl) (hks : (backToKw pos (keywordEach [⟨some "key", .Name x fp, kp⟩] X.env)).filterMap (·.1) = (["key"] : List Str) := by rfl) :
    PDE X (at0 S0 n) W (.Call (.Name "sorted" p) [a] [⟨some "key", .Name x fp, kp⟩] pos) (dSortK G da) := by
  obtain ⟨f, fd, ps, h1, h2, h3, h4⟩ := C.ex
  obtain ⟨dvs, dV, b1, b2, b3⟩ := (h3 0 (Nat.le_refl _)).ex
  have ed := (b3 [] (fun _ => none)).eq_nil
  subst ed
  cases b2
  obtain ⟨ta, pa, ka⟩ := ha.ex
  have F : FnOk X.prog X.w X.K X.mg X.base (L2M.CX md X.prog X.w) k f fd ps (spD (at0 (at0 S0 n) 0) 1 G) := h4
  refine ⟨_, pe_callBK (LKey.cr_sortK hu F (hr.mono hk) b1) hg hm (show bootBuiltins "sorted" = some (.builtin "sorted") by decide +kernel) (pa_cons pa pa_nil hs1) (pk_cons (pe_glob (v := .ref f) hgx h1 rfl hdb) pk_nil) (by decide) (by decide) he hpl hall hnone hks, fun env σ c μ Q I en q => ?_⟩
  refine (show ta σ c.H fun x H1 => LKey.rSortK X.K f (spD (at0 (at0 S0 n) 0) 1 G) [x] [.ref f] H1 Q from ?_)
  refine bindE (fun Q' => ka env σ c μ Q' I en) q fun x μ1 v c1 s1 I1 r1 q1 => ?_
  cases e : lstOf μ1 x with
  | none => rw [e] at q1; exact q1.elim
  | some l =>
    rw [e] at q1
    have q1 : EQ (at0 S0 n) W σ c1 Q (if h : ∃ ks, KeysD G μ1 l ks ∧ sortOk ks = true ∧ l.length ≤ 100000 then .ok (.lst (sortBy (Classical.choose h) l)) μ1 else .stuck) := q1
    by_cases h : ∃ ks, KeysD G μ1 l ks ∧ sortOk ks = true ∧ l.length ≤ 100000
    · rw [dif_pos h] at q1
      have hc := Classical.choose_spec h
      generalize Classical.choose h = ks at q1 hc
      obtain ⟨hk2, hs, hl⟩ := hc
      obtain ⟨hp, hal, hso, hdp⟩ := sortOk_at hs
      obtain ⟨p1, vs, rfl, g1, g2⟩ := lst_at I1 r1 e
      refine ⟨p1, vs, rfl, rfl, by rw [hK]; exact sq_of g1, by rw [← g2.len]; exact hl, fun i kv H' => ∃ c', c'.H = H' ∧ Step (at0 S0 n) c1 c' ∧ SI (at0 S0 n) c' μ1 ∧ reps (at0 S0 n) c'.io c'.F (ks.take i) kv, ⟨c1, rfl, I1.step, I1, by rw [List.take_zero]; exact .nil⟩, fun i kv H' y hy ⟨c', eH, s', I', r'⟩ => ?_, fun kv H' ⟨c', eH, s', I', r'⟩ => ?_⟩
      · subst eH
        obtain ⟨d, e1, e2⟩ := g2.getV hy
        have hi : i < ks.length := by rw [hk2.1]; exact (List.getElem?_eq_some_iff.mp e1).1
        have ek := hk2.2 i d _ e1 (List.getElem?_eq_getElem hi)
        refine sp_at (σ := []) (W := wNo) (l := [d]) I' (.cons (s'.rep e2) .nil) rfl ?_
        rw [ek]
        intro u c2 s2 I2 r2
        refine ⟨c2, rfl, s'.trans s2, I2, ?_⟩
        rw [List.take_add_one, List.getElem?_eq_getElem hi]
        exact (s2.reps r').append (.cons r2 .nil)
      · subst eH
        have elen : vs.length = ks.length := by rw [hk2.1, g2.len]
        rw [elen, List.take_length] at r'
        obtain ⟨ts, t1, t2, t3, t4⟩ := reps_zip ks hk2.1 (s'.reps g2)
        have hm : ∀ t ∈ ts, t.2.2 ∈ ks := fun t m => t3 ▸ List.mem_map.mpr ⟨t, m, rfl⟩
        refine ⟨ts.map fun t => (t.1, t.2.2), by rw [List.map_map]; exact t1, ?_, fun b m b' m' => ?_, ?_, fun b m => ?_, fun p2 hp2 => ?_⟩
        · clear q1 hm t1 t2 t4
          have go : ∀ (kv : List V) (ks : List D) (ts : List (V × (D × D))), ts.map (fun t => t.2.2) = ks → plains ks = true → reps (at0 S0 n) c'.io c'.F ks kv → Paired (fun k (p : V × D) => Dp X.K c'.H k (py p.2)) kv (ts.map fun t => (t.1, t.2.2)) := by
            intro kv ks ts e
            induction ts generalizing kv ks with
            | nil => intro _ r; subst e; rw [r.eq_nil]; exact .nil
            | cons t ts ih =>
              intro hp r
              subst e
              obtain ⟨x, r', rfl, h1, h2⟩ := r.uncons
              unfold plains at hp
              have hp := Bool.and_eq_true_iff.mp hp
              exact .cons (by rw [hK]; exact rep_dp (S := at0 S0 n) I'.ex t.2.2 h1 hp.1) (ih _ _ rfl hp.2 h2)
          exact go _ _ _ t3 hp r'
        · obtain ⟨t, mt, rfl⟩ := List.mem_map.mp m
          obtain ⟨t', mt', rfl⟩ := List.mem_map.mp m'
          exact hal _ (hm t mt) _ (hm t' mt')
        · rw [List.map_map]
          have : (ts.map ((fun b : V × D => py b.2) ∘ fun t => (t.1, t.2.2))) = ks.map py := by rw [← t3, List.map_map]; rfl
          rw [this]; exact hso
        · obtain ⟨t, mt, rfl⟩ := List.mem_map.mp m
          exact hdp _ (hm t mt)
        · have e1 : (ts.map fun t => (t.1, t.2.2)).mergeSort (fun a b : V × D => ltLe a.2 b.2) = (ts.mergeSort (fun a b => ltLe a.2.2 b.2.2)).map fun t => (t.1, t.2.2) := (List.map_mergeSort (f := fun t : V × (D × D) => (t.1, t.2.2)) (r := fun a b => ltLe a.2.2 b.2.2) (s := fun a b : V × D => ltLe a.2 b.2) (l := ts) (fun a _ b _ => rfl)).symm
          have e2 : (l.zip ks).mergeSort (fun a b => ltLe a.2 b.2) = (ts.mergeSort (fun a b => ltLe a.2.2 b.2.2)).map fun t => t.2 := by
            rw [← t2]
            exact (List.map_mergeSort (f := fun t : V × (D × D) => t.2) (r := fun a b => ltLe a.2.2 b.2.2) (s := fun a b : D × D => ltLe a.2 b.2) (l := ts) (fun a _ b _ => rfl)).symm
          rw [e1, List.map_map]
          obtain ⟨I3, s3⟩ := I'.fresh (o := .lst ((ts.mergeSort (fun a b => ltLe a.2.2 b.2.2)).map fun t => t.1)) hp2
          have rr := reps_trip (S := at0 S0 n) (io := c'.io) (F := c'.F) (ts.mergeSort (fun a b => ltLe a.2.2 b.2.2)) fun t m => t4 t (List.mem_mergeSort.mp m)
          refine q1 _ _ (s'.trans s3) I3 ?_
          unfold sortBy rep
          rw [e2, List.map_map]
          exact ⟨p2, _, rfl, upd_same, s3.reps rr⟩
    · rw [dif_neg h] at q1; exact q1.elim
end
section
variable {μ : List M} {env : En} {da : DE} {G : GF} {Q : D → List M → Prop} {X : XP} {k : Kt Q X}
open Classical in
theorem w_sortK : WO (dSortK G da env μ) Q X k = WO (da env μ) (fun x m => OP (lstOf m x) (fun l => ∃ ks, (KeysD G m l ks ∧ sortOk ks = true ∧ l.length ≤ 100000) ∧ Q (.lst (sortBy ks l)) m) ⟨⟩) X ⟨⟩ := by
  unfold dSortK
  rw [w_bind]
  refine wo_cong fun x m => ?_
  cases lstOf m x with
  | none => rfl
  | some l =>
    show WO (if h : ∃ ks, KeysD G m l ks ∧ sortOk ks = true ∧ l.length ≤ 100000 then .ok (.lst (sortBy (Classical.choose h) l)) m else .stuck) Q X ⟨⟩ = (∃ ks, (KeysD G m l ks ∧ sortOk ks = true ∧ l.length ≤ 100000) ∧ Q (.lst (sortBy ks l)) m)
    by_cases h : ∃ ks, KeysD G m l ks ∧ sortOk ks = true ∧ l.length ≤ 100000
    · rw [dif_pos h]
      have hc := Classical.choose_spec h
      generalize Classical.choose h = ks at hc
      refine propext ⟨fun q => ⟨ks, hc, q⟩, fun ⟨ks', h', q⟩ => ?_⟩
      rw [keys_uniq hc.1 h'.1]; exact q
    · rw [dif_neg h]
      exact propext ⟨fun q => q.elim, fun ⟨ks, h', _⟩ => absurd ⟨ks, h'⟩ h⟩
end
end DL
namespace DL
open PySem PySem.Spec PyProof.Rows L2 LTup
/-! readings of dicts with tuple keys, locks, enumerate, extend -/
def lkVar (v : Nat) : LkAt := fun env _ => match env[v]?.join with
  | some (.cel i) => some i
  | _ => none
def setdO (m : List M) (x : D) : List D → Option (List M)
  | [k, v] => (keyD k).bind fun k' => (tabOf m x).bind fun t => if t.2.1.length < 100000 then some (setdM m t k' v) else none
  | _ => none
def popkO (m : List M) (x : D) : List D → Option (List M)
  | [k] => (keyD k).bind fun k' => (tabOf m x).bind fun t => if k' ∈ t.2.1 then some (dropM m t k') else none
  | _ => none
def itTO (m : List M) (x : D) : Option D := (tabOf m x).bind fun t => if t.2.1.length ≤ 100000 then some (.lst (itemsD t.2.1 t.2.2)) else none
def lckT (m : List M) (x : D) : Option (List D × (List M → Prop)) := match x with
  | .cel i => match m[i]? with
    | some (.lck (.t ks) l) => some (itemsD ks l, fun _ => True)
    | _ => none
  | _ => none
def unlO (i : Nat) (m : List M) : Option (List M) := match m[i]? with
  | some (.lck t l) => some (m.set i (unlM t l))
  | _ => none
section
variable {μ : List M} {env : En} {da de : DE} {ds : DA} {X : XP} {N : En → List M → Prop} {R : D → List M → Prop} {B C : En → List M → Prop} {Z : Str → List Str → List D → En → List M → Prop} {ks : Ks N R B C Z}
theorem s_dct {i : Nat} : WS (sDct i env μ) N R B C Z ks = N (env.set i (some (.cel μ.length))) (μ ++ [.dcT [] []]) := id rfl
theorem s_setd : WS (sSetd da ds env μ) N R B C Z ks = WO (da env μ) (fun x m => (tabOf m x).isSome = true ∧ WO (ds env m) (fun l m2 => OP (setdO m2 x l) (fun m3 => N env m3) ⟨⟩) (fun c ns l m => Z c ns l env m) ⟨⟩) (fun c ns l m => Z c ns l env m) ⟨⟩ := by
  unfold sSetd
  rw [w_bindS]
  refine wo_cong fun x m => ?_
  by_cases h : (tabOf m x).isSome = true
  · rw [if_pos h, w_bindS]
    refine Eq.trans (wo_cong fun l m2 => ?_) (propext ⟨fun q => ⟨h, q⟩, fun q => q.2⟩)
    cases l with
    | nil => rfl
    | cons k l =>
      cases l with
      | nil => rfl
      | cons v l =>
        cases l with
        | cons _ _ => rfl
        | nil =>
          show WS (match keyD k, tabOf m2 x with | some k', some t => if t.2.1.length < 100000 then .nx env (setdM m2 t k' v) else .stuck | _, _ => .stuck) N R B C Z _ = OP ((keyD k).bind fun k' => (tabOf m2 x).bind fun t => if t.2.1.length < 100000 then some (setdM m2 t k' v) else none) _ _
          cases keyD k with
          | none => rfl
          | some k' =>
            cases tabOf m2 x with
            | none => rfl
            | some t =>
              show WS (if t.2.1.length < 100000 then _ else _) N R B C Z _ = OP (if t.2.1.length < 100000 then _ else _) _ _
              by_cases hl : t.2.1.length < 100000
              · rw [if_pos hl, if_pos hl]; rfl
              · rw [if_neg hl, if_neg hl]; rfl
  · rw [if_neg h]
    exact propext ⟨fun q => q.elim, fun q => absurd q.1 h⟩
theorem s_popk : WS (sPopk da ds env μ) N R B C Z ks = WO (da env μ) (fun x m => (tabOf m x).isSome = true ∧ WO (ds env m) (fun l m2 => OP (popkO m2 x l) (fun m3 => N env m3) ⟨⟩) (fun c ns l m => Z c ns l env m) ⟨⟩) (fun c ns l m => Z c ns l env m) ⟨⟩ := by
  unfold sPopk
  rw [w_bindS]
  refine wo_cong fun x m => ?_
  by_cases h : (tabOf m x).isSome = true
  · rw [if_pos h, w_bindS]
    refine Eq.trans (wo_cong fun l m2 => ?_) (propext ⟨fun q => ⟨h, q⟩, fun q => q.2⟩)
    cases l with
    | nil => rfl
    | cons k l =>
      cases l with
      | cons _ _ => rfl
      | nil =>
        show WS (match keyD k, tabOf m2 x with | some k', some t => if k' ∈ t.2.1 then .nx env (dropM m2 t k') else .stuck | _, _ => .stuck) N R B C Z _ = OP ((keyD k).bind fun k' => (tabOf m2 x).bind fun t => if k' ∈ t.2.1 then some (dropM m2 t k') else none) _ _
        cases keyD k with
        | none => rfl
        | some k' =>
          cases tabOf m2 x with
          | none => rfl
          | some t =>
            show WS (if k' ∈ t.2.1 then _ else _) N R B C Z _ = OP (if k' ∈ t.2.1 then _ else _) _ _
            by_cases hl : k' ∈ t.2.1
            · rw [if_pos hl, if_pos hl]; rfl
            · rw [if_neg hl, if_neg hl]; rfl
  · rw [if_neg h]
    exact propext ⟨fun q => q.elim, fun q => absurd q.1 h⟩
theorem s_ext : WS (sExt da de env μ) N R B C Z ks = WO (da env μ) (fun x m => OP (celI x) (fun i => OP (cellL m[i]?) (fun _ => WO (de env m) (fun y m2 => OP (cellL m2[i]?) (fun l => OP (lstOf m2 y) (fun z => l.length + z.length ≤ 100000 ∧ N env (m2.set i (.lst (l ++ z)))) ⟨⟩) ⟨⟩) (fun c ns l m => Z c ns l env m) ⟨⟩) ⟨⟩) ⟨⟩) (fun c ns l m => Z c ns l env m) ⟨⟩ := by
  unfold sExt
  rw [w_bindS]
  refine wo_cong fun x m => ?_
  cases x <;> first | rfl | skip
  rename_i i
  show WS (match m[i]? with | some (.lst _) => _ | _ => .stuck) N R B C Z ⟨⟩ = OP (cellL m[i]?) _ ⟨⟩
  cases m[i]? with
  | none => rfl
  | some o =>
    cases o <;> first | rfl | skip
    show WS ((de env m).bindS env _) N R B C Z ⟨⟩ = WO (de env m) _ _ ⟨⟩
    rw [w_bindS]
    refine wo_cong fun y m2 => ?_
    cases m2[i]? with
    | none => rfl
    | some o2 =>
      cases o2 <;> first | rfl | skip
      rename_i l
      show WS (match some (M.lst l), lstOf m2 y with | some (.lst l), some z => _ | _, _ => .stuck) N R B C Z ⟨⟩ = OP (lstOf m2 y) _ ⟨⟩
      cases lstOf m2 y with
      | none => rfl
      | some z =>
        show WS (if l.length + z.length ≤ 100000 then _ else _) N R B C Z _ = (l.length + z.length ≤ 100000 ∧ _)
        by_cases h : l.length + z.length ≤ 100000
        · rw [if_pos h]; exact propext ⟨fun q => ⟨h, q⟩, fun q => q.2⟩
        · rw [if_neg h]; exact propext ⟨fun q => q.elim, fun q => absurd q.1 h⟩
end
section
variable {μ : List M} {env : En} {da : DE} {ds : DA} {X : XP}
theorem w_itT {Q : D → List M → Prop} {k : Kt Q X} : WO (dItT da env μ) Q X k = WO (da env μ) (fun x m => OP (itTO m x) (fun d => Q d m) ⟨⟩) X ⟨⟩ := by
  unfold dItT
  rw [w_bind]
  refine wo_cong fun x m => ?_
  unfold itTO
  cases tabOf m x with
  | none => rfl
  | some t =>
    by_cases h : t.2.1.length ≤ 100000
    · simp only [Option.bind_some, if_pos h]; rfl
    · simp only [Option.bind_some, if_neg h]; rfl
theorem i_itT {Q : List D × (List M → Prop) → List M → Prop} {k : Kt Q X} : WO (iItT da env μ) Q X k = WO (da env μ) (fun x m => OP (lckT m x) (fun r => Q r m) ⟨⟩) X ⟨⟩ := by
  unfold iItT
  rw [w_bind]
  refine wo_cong fun x m => ?_
  cases x <;> first | rfl | skip
  rename_i i
  unfold lckT
  dsimp only
  cases m[i]? with
  | none => rfl
  | some o =>
    cases o <;> first | rfl | skip
    rename_i t l
    cases t <;> rfl
theorem i_enum {Q : List D × (List M → Prop) → List M → Prop} {k : Kt Q X} : WO (iEnumD ds env μ) Q X k = WO (ds env μ) (fun l m => OP (enumO m l) (fun r => Q r m) ⟨⟩) X ⟨⟩ := by
  unfold iEnumD
  rw [w_bind]
  refine wo_cong fun l m => ?_
  cases enumO m l <;> rfl
theorem w_lock {Q : D → List M → Prop} {k : Kt Q X} {f : LkAt} {d : DE} : WO (dLock f d env μ) Q X k = OP (lkOf f env μ) (fun p => WO (d env (μ.set p.1 (.lck p.2.1 p.2.2))) (fun r m2 => OP (unlO p.1 m2) (fun m3 => Q r m3) ⟨⟩) xNo ⟨⟩) ⟨⟩ := by
  unfold dLock
  cases lkOf f env μ with
  | none => rfl
  | some p =>
    obtain ⟨i, t, l⟩ := p
    show WO (match d env (μ.set i (.lck t l)) with | .ok r μ2 => _ | _ => .stuck) Q X k = WO (d env (μ.set i (.lck t l))) (fun r m2 => OP (unlO i m2) (fun m3 => Q r m3) ⟨⟩) xNo ⟨⟩
    cases d env (μ.set i (.lck t l)) with
    | ok r m2 =>
      show WO (match m2[i]? with | some (.lck t2 l2) => .ok r (m2.set i (unlM t2 l2)) | _ => .stuck) Q X k = OP (unlO i m2) _ ⟨⟩
      unfold unlO
      cases m2[i]? with
      | none => rfl
      | some o => cases o <;> rfl
    | ex _ _ _ _ => rfl
    | stuck => rfl
end
end DL
namespace DL
open PySem PySem.Spec PyProof.Rows L2
/-! ### x in a list, x a tuple of plain data -/
section
variable {X : Cx} {S : Sx}
def InD (K : PySem.W.Frag) (H : Hp) (dx : PyData) (xs : List V) (ds : List PyData) : Prop :=
  ds.length = xs.length ∧ ∀ (i : Nat) (z : V) (d : PyData), xs[i]? = some z → ds[i]? = some d → Dp K H z d ∧ d.canLay0 = true
def rInP (K : PySem.W.Frag) (neg : Bool) : R2 := fun x y H Q => ∃ p xs dx ds, y = .ref p ∧ (SqL K H p xs ∨ SqT K H p xs) ∧ Dp K H x dx ∧ dx.canLay0 = true ∧ dx.depth ≤ 8 ∧ InD K H dx xs ds ∧
  Q (.bl (if neg then !(ds.any fun d => PyData.eqv d dx) else ds.any fun d => PyData.eqv d dx)) H
open Classical in
noncomputable def eqP (us : List Value) (ds : List PyData) (dx : PyData) (u : Value) : Bool := decide (∃ (i : Nat) (d : PyData), us[i]? = some u ∧ ds[i]? = some d ∧ PyData.eqv d dx = true)
open Classical in
theorem eqP_iff {us : List Value} {ds : List PyData} {dx : PyData} {u : Value} : eqP us ds dx u = true ↔ ∃ (i : Nat) (d : PyData), us[i]? = some u ∧ ds[i]? = some d ∧ PyData.eqv d dx = true := by
  unfold eqP
  exact decide_eq_true_iff
theorem any_eqP {us : List Value} {ds : List PyData} {dx : PyData} (h : ds.length = us.length) : us.toArray.any (eqP us ds dx) = ds.any fun d => PyData.eqv d dx := by
  rw [show us.toArray.any (eqP us ds dx) = us.any (eqP us ds dx) by simp]
  have key : us.any (eqP us ds dx) = true ↔ (ds.any fun d => PyData.eqv d dx) = true := by
    rw [List.any_eq_true, List.any_eq_true]
    constructor
    · rintro ⟨u, _, e⟩
      obtain ⟨i, d, _, h2, h3⟩ := eqP_iff.mp e
      exact ⟨d, List.mem_of_getElem? h2, h3⟩
    · rintro ⟨d, m, e⟩
      obtain ⟨i, hi, rfl⟩ := List.getElem_of_mem m
      refine ⟨us[i]'(h ▸ hi), List.getElem_mem _, ?_⟩
      exact eqP_iff.mpr ⟨i, _, List.getElem?_eq_getElem _, List.getElem?_eq_getElem hi, e⟩
  cases h1 : us.any (eqP us ds dx) with
  | true => exact (key.mp h1).symm
  | false => cases h2 : ds.any fun d => PyData.eqv d dx with
    | false => rfl
    | true => rw [key.mpr h2] at h1; cases h1
theorem op_inP {neg : Bool} (hu : X.A.units + 64 < cLine) : OpR X (compareOp (if neg then .NotIn else .In)) (rInP X.K neg) := by
  intro pins s σ H x y v u Q I rx ry h
  obtain ⟨p, xs, dx, ds, rfl, hq, hx, lx, zx, ⟨hl, hd⟩, q⟩ := h
  cases ry
  obtain ⟨as, r1⟩ := Dp.reads I dx x v hx rx
  have go : ∀ {its : List Value}, Vals xs its → its.length = xs.length ∧ ∀ w ∈ its.toArray, SeqAt.EqAt X.A.in1 s w v (eqP its ds dx w) := fun {its} r => by
    have hv : its.length = xs.length := (Vals.length r).symm
    refine ⟨hv, fun w hw => ?_⟩
    have at_ : ∀ (i : Nat) (d : PyData), its[i]? = some w → ds[i]? = some d → SeqAt.EqAt X.A.in1 s w v (PyData.eqv d dx) := fun i d h1 h2 => by
      have hi : i < xs.length := hv ▸ (List.getElem?_eq_some_iff.mp h1).1
      obtain ⟨k1, k2⟩ := hd i _ d (List.getElem?_eq_getElem hi) h2
      have rz : RelV xs[i] w := by
        obtain ⟨u, e1, e2⟩ := Vals.get r (List.getElem?_eq_getElem hi)
        rw [h1] at e1; cases e1
        exact e2
      obtain ⟨bs, r2⟩ := Dp.reads I d _ w k1 rz
      refine SeqAt.eqAt_reads d dx X.A.in1 s w v bs as r2 r1 k2 lx ?_
      show X.A.units + 1 + _ < cLine
      have := Nat.min_le_right d.depth dx.depth
      omega
    by_cases h : eqP its ds dx w = true
    · rw [h]
      obtain ⟨i, d, h1, h2, h3⟩ := eqP_iff.mp h
      have := at_ i d h1 h2
      rw [h3] at this
      exact this
    · have h0 : eqP its ds dx w = false := by
        cases z : eqP its ds dx w with
        | false => rfl
        | true => exact absurd z h
      rw [h0]
      obtain ⟨i, hi, e⟩ := List.getElem_of_mem (show w ∈ its by simpa using hw)
      have hi2 : i < ds.length := by omega
      have k := at_ i ds[i] (by rw [← e]; exact List.getElem?_eq_getElem hi) (List.getElem?_eq_getElem hi2)
      have k2 : PyData.eqv ds[i] dx = false := by
        cases z : PyData.eqv ds[i] dx with
        | false => rfl
        | true =>
          refine absurd ?_ h
          exact eqP_iff.mpr ⟨i, _, by rw [← e]; exact List.getElem?_eq_getElem hi, List.getElem?_eq_getElem hi2, z⟩
      rw [k2] at k
      exact k
  rcases hq with hq | hq
  · obtain ⟨its, r, pl, hz⟩ := I.list hq
    obtain ⟨h1, h2⟩ := go r
    have h3 := any_eqP (us := its) (ds := ds) (dx := dx) (by omega)
    cases neg with
    | false => exact SeqAt.in_listAt _ pl.isList h2 ⟨.bl _, H, I, rfl, by rw [h3]; exact q⟩
    | true => exact SeqAt.notIn_listAt _ pl.isList h2 ⟨.bl _, H, I, rfl, by rw [h3]; exact q⟩
  · obtain ⟨its, r, pl, hz⟩ := I.tuple hq
    obtain ⟨h1, h2⟩ := go r
    have h3 := any_eqP (us := its) (ds := ds) (dx := dx) (by omega)
    cases neg with
    | false => exact SeqAt.in_tupleAt _ pl h2 ⟨.bl _, H, I, rfl, by rw [h3]; exact q⟩
    | true => exact SeqAt.notIn_tupleAt _ pl h2 ⟨.bl _, H, I, rfl, by rw [h3]; exact q⟩
def inP (neg : Bool) (μ : List M) (x y : D) : Option D := match seqOf μ y with
  | some l => if (plain x && (decide (dep x ≤ 8) && l.all plain)) = true then some (.bl (if neg then !(l.any fun d => eqB d x) else l.any fun d => eqB d x)) else none
  | none => none
def opIn3 (neg : Bool) (μ : List M) (x y : D) : Option D := match x with
  | .tup _ => inP neg μ x y
  | x => opIn neg μ x y
theorem po_in3 {neg : Bool} (hK : X.K = S.K) (hu : X.A.units + 64 < cLine) (o : PDO X S (compareOp (if neg then .NotIn else .In)) (opIn neg)) : PDO X S (compareOp (if neg then .NotIn else .In)) (opIn3 neg) := by
  obtain ⟨r, h1, h2⟩ := o.ex
  refine ⟨fun x y H Q => rInP X.K neg x y H Q ∨ r x y H Q, or_op (op_inP hu) h1, ?_⟩
  intro c μ x y d1 d2 d Q I r1 r2 e k
  cases d1 with
  | tup l1 =>
    refine .inl ?_
    have e : inP neg μ (.tup l1) d2 = some d := e
    unfold inP at e
    cases es : seqOf μ d2 with
    | none => rw [es] at e; cases e
    | some l =>
      rw [es] at e
      obtain ⟨p, xs, rfl, h1, h2⟩ := seq_at I r2 es
      dsimp only at e
      by_cases h : (plain (.tup l1) && (decide (dep (.tup l1) ≤ 8) && l.all plain)) = true
      · rw [if_pos h] at e
        obtain rfl := Option.some.inj e
        obtain ⟨g1, h⟩ := Bool.and_eq_true_iff.mp h
        obtain ⟨g2, g3⟩ := Bool.and_eq_true_iff.mp h
        rw [List.all_eq_true] at g3
        obtain ⟨k1, k2⟩ := dp_at I r1 (show plain (now μ (.tup l1)) = true from g1)
        refine ⟨p, xs, py (.tup l1), l.map py, rfl, by rw [hK]; exact h1, by rw [hK]; exact k1, k2, by rw [dep_py]; exact of_decide_eq_true g2, ⟨by rw [List.length_map, h2.len], fun i z d e1 e2 => ?_⟩, ?_⟩
        · rw [List.getElem?_map] at e2
          obtain ⟨dz, e3, rfl⟩ := Option.map_eq_some_iff.mp e2
          obtain ⟨z', e4, rz⟩ := h2.get e3
          rw [e1] at e4; cases e4
          have pz := g3 dz (List.mem_of_getElem? e3)
          have nz : now μ dz = dz := by cases dz <;> first | rfl | cases pz
          obtain ⟨k3, k4⟩ := dp_at I rz (by rw [nz]; exact pz)
          rw [nz] at k3 k4
          exact ⟨by rw [hK]; exact k3, k4⟩
        · have : ((l.map py).any fun d => PyData.eqv d (py (.tup l1))) = l.any fun d => eqB d (.tup l1) := by
            rw [List.any_map]
            have go : ∀ l : List D, l.all plain = true → (l.any ((fun d => PyData.eqv d (py (.tup l1))) ∘ py)) = l.any fun d => eqB d (.tup l1) := fun l hl => by
              induction l with
              | nil => rfl
              | cons z l ih =>
                rw [List.all_cons] at hl
                obtain ⟨z1, z2⟩ := Bool.and_eq_true_iff.mp hl
                rw [List.any_cons, List.any_cons, ih z2, eqB_py z (.tup l1) z1 g1]; rfl
            exact go l (List.all_eq_true.mpr g3)
          rw [this]
          exact k _ c I.step I (rep_bl.mpr rfl)
      · rw [if_neg h] at e; cases e
  | _ => exact .inr (h2 c μ x y _ d2 d Q I r1 r2 e k)
theorem po_in3T {kr : Nat} (hK : X.K = S.K) (hr : Room kr X.A) : PDO X S (compareOp .NotIn) (opIn3 true) := po_in3 (neg := true) hK hr.units (po_notIn hK)
end
end DL
set_option maxHeartbeats 0
namespace K12
open PySem PySem.Spec PyProof.Rows L2 DL
theorem ob_eq (s : PySem.W.SharedT) : ob s = hk.obs s.abs := obsXG_eq (HandSHeadRun.getT_eq s)
end K12
namespace PG
open PySem PySem.Spec PyProof.Rows L2 DL
def dfl_law_well : List D := []
def dfl_law_draw : List D := []
def dfl_law_number : List D := []
def dfl_law_last : List D := []
def dfl_law_block : List D := []
def dfl_law_cells : List D := []
noncomputable def D_is_whole : DS :=
  (sRet (dAnd (dBlt (bIsU (.inl "int")) (aCons (dVar 0) (aCons (dC (.ty "int")) aNil))) (dNot (dBlt (bIsU (.inl "bool")) (aCons (dVar 0) (aCons (dC (.ty "bool")) aNil))))))
def dfl_is_whole : List D := []
noncomputable def G_is_whole : GF := fnG 1 1 D_is_whole
noncomputable def D_is_count : DS :=
  (sRet (dAnd (dCall 1 G_is_whole (List.drop 0 dfl_is_whole) (aCons (dVar 0) aNil)) (dOp opGe (dVar 0) (dC (.int 1)))))
def dfl_is_count : List D := []
noncomputable def G_is_count : GF := fnG 1 1 D_is_count
noncomputable def D_is_end : DS :=
  (sRet (dOr (dOp opIs (dVar 1) (dC .non)) (dAnd (dCall 1 G_is_count (List.drop 0 dfl_is_count) (aCons (dVar 1) aNil)) (dOp opGe (dVar 1) (dVar 0)))))
def dfl_is_end : List D := []
noncomputable def G_is_end : GF := fnG 2 2 D_is_end
noncomputable def D_Block_init__ : DS :=
  (sSeq (sIf (tOr2 (tNot2 (dTru (dCall 1 G_is_count (List.drop 0 dfl_is_count) (aCons (dVar 1) aNil)))) (tOr2 (tNot2 (dTru (dCall 1 G_is_count (List.drop 0 dfl_is_count) (aCons (dVar 2) aNil)))) (tOr2 (tNot2 (dTru (dCall 2 G_is_end (List.drop 0 dfl_is_end) (aCons (dVar 1) (aCons (dVar 3) aNil))))) (tNot2 (dTru (dCall 2 G_is_end (List.drop 0 dfl_is_end) (aCons (dVar 2) (aCons (dVar 4) aNil))))))))
    (sRaise "NoBlock")
    sNil)
    (sSeq (sFldSet "top" (dVar 0) (dVar 1))
    (sSeq (sFldSet "left" (dVar 0) (dVar 2))
    (sSeq (sFldSet "bottom" (dVar 0) (dVar 3))
    (sFldSet "right" (dVar 0) (dVar 4))))))
def dfl_Block_init__ : List D := [(.int 1), (.int 1), .non, .non]
noncomputable def G_Block_init__ : GF := fnG 5 5 D_Block_init__
def dfl_law_made : List D := []
noncomputable def D_is_cell : DS :=
  (sRet (dAnd (dBlt (bIsU (.inl "tuple")) (aCons (dVar 0) (aCons (dC (.ty "tuple")) aNil))) (dAnd (dOp opEq (dBlt bLen (aCons (dVar 0) aNil)) (dC (.int 2))) (dBlt bAll (aCons (dLcF (iAny (dVar 0)) (gNm 1) tYes' (dCall 1 G_is_count (List.drop 0 dfl_is_count) (aCons (dVar 1) aNil)) [1]) aNil)))))
def dfl_is_cell : List D := []
noncomputable def G_is_cell : GF := fnG 2 1 D_is_cell
noncomputable def D_checked_cell : DS :=
  (sIf (tNot2 (dTru (dCall 1 G_is_cell (List.drop 0 dfl_is_cell) (aCons (dVar 0) aNil))))
    (sRaise "NoCell")
    sNil)
def dfl_checked_cell : List D := []
noncomputable def G_checked_cell : GF := fnG 1 1 D_checked_cell
noncomputable def D_Block_has : DS :=
  (sSeq (sExp (dCall 1 G_checked_cell (List.drop 0 dfl_checked_cell) (aCons (dVar 1) aNil)))
    (sSeq (sAsg (dVar 1) (gSeq 2 (gsCons (gNm 2) (gsCons (gNm 3) gsNil))))
    (sSeq (sIf (tOr2 (dTst (dOp opLt (dVar 2) (dFld "top" (dVar 0)))) (dTst (dOp opLt (dVar 3) (dFld "left" (dVar 0)))))
    (sRet (dC (.bl false)))
    sNil)
    (sRet (dAnd (dOr (dOp opIs (dFld "bottom" (dVar 0)) (dC .non)) (dOp opLe (dVar 2) (dFld "bottom" (dVar 0)))) (dOr (dOp opIs (dFld "right" (dVar 0)) (dC .non)) (dOp opLe (dVar 3) (dFld "right" (dVar 0)))))))))
def dfl_Block_has : List D := []
noncomputable def G_Block_has : GF := fnG 4 2 D_Block_has
def dfl_law_has : List D := []
def dfl_Block_size : List D := []
def dfl_law_size : List D := []
def dfl_law_right : List D := []
def dfl_Block_eq__ : List D := []
def dfl_law_alike : List D := []
def dfl_row_text : List D := []
def dfl_letters_of : List D := []
def dfl_column_text : List D := []
def dfl_is_rows : List D := []
def dfl_is_columns : List D := []
def dfl_letters_ahead : List D := []
def dfl_by_ends : List D := []
def dfl_Block_str__ : List D := []
def dfl_Block_repr__ : List D := []
noncomputable def D_law_cell_at : DS :=
  (sSeq (sIf (dTst (dOp opLt (dVar 1) (dBlt bLen (aCons (dVar 0) aNil))))
    (sRet (dOp opIx (dVar 0) (dVar 1)))
    sNil)
    (sRet (dC (.int 0))))
def dfl_law_cell_at : List D := []
noncomputable def G_law_cell_at : GF := fnG 2 2 D_law_cell_at
def dfl_count_of : List D := []
def dfl_number_of : List D := []
def dfl_parted : List D := []
def dfl_block_of : List D := []
def dfl_law_letters : List D := []
def dfl_law_text : List D := []
noncomputable def D_law_source : DS :=
  (sRetC (aCons (dVar 0) (aCons (dVar 0) (aCons (dC (.int 0)) aNil))))
def dfl_law_source : List D := []
noncomputable def G_law_source : GN := fnN 1 1 D_law_source
noncomputable def D_law_mixed : DS :=
  (sSeq (sAsg (dOp opAdd (dOp opAdd (dOp opAdd (dOp opMod (dVar 0) (dC (.int 2147483629))) (dOp opMul (dOp opDiv (dVar 0) (dC (.int 2147483629))) (dC (.int 30011)))) (dOp opMul (dC (.int 69621)) (dVar 1))) (dC (.int 1))) (gNm 2))
    (sSeq (sAsg (dOp opMod (dOp opMul (dVar 2) (dC (.int 48271))) (dC (.int 2147483629))) (gNm 2))
    (sSeq (sAsg (dOp opMod (dOp opMul (dVar 2) (dOp opAdd (dOp opAdd (dOp opDiv (dVar 2) (dC (.int 907))) (dC (.int 16831))) (dVar 1))) (dC (.int 2147483587))) (gNm 2))
    (sRet (dOp opMod (dOp opMul (dVar 2) (dOp opAdd (dOp opDiv (dVar 2) (dC (.int 1201))) (dC (.int 30011)))) (dC (.int 2147483563)))))))
def dfl_law_mixed : List D := []
noncomputable def G_law_mixed : GF := fnG 3 2 D_law_mixed
noncomputable def D_law_next : DS :=
  (sSeq (sIf (dTst (dOp opGe (dOp opIx (dVar 0) (dC (.int 0))) (dOp opPow (dC (.int 10)) (dC (.int 18)))))
    (sSeq (sAsg (dOp opMod (dOp opIx (dVar 0) (dC (.int 0))) (dVar 1)) (gNm 2))
    (sSeq (sSetIx (dOp opDiv (dOp opIx (dVar 0) (dC (.int 0))) (dVar 1)) (dVar 0) (dC (.int 0)))
    (sRet (dVar 2))))
    sNil)
    (sSeq (sSetIx (dOp opAdd (dOp opIx (dVar 0) (dC (.int 2))) (dC (.int 1))) (dVar 0) (dC (.int 2)))
    (sRet (dOp opMod (dCall 2 G_law_mixed (List.drop 0 dfl_law_mixed) (aCons (dOp opIx (dVar 0) (dC (.int 1))) (aCons (dOp opIx (dVar 0) (dC (.int 2))) aNil))) (dVar 1)))))
def dfl_law_next : List D := []
noncomputable def G_law_next : GF := fnG 3 2 D_law_next
def dfl_law_number_k31 : List D := []
noncomputable def D_law_ends_k12 : DS :=
  (sSeq (sAsg (dOp opAdd (dC (.int 1)) (dCall 2 G_law_next (List.drop 0 dfl_law_next) (aCons (dVar 0) (aCons (dOp opIx (dLst (aCons (dC (.int 6)) (aCons (dOp opPow (dC (.int 10)) (dC (.int 11))) aNil))) (dVar 1)) aNil)))) (gNm 2))
    (sSeq (sAsg (dOp opAdd (dVar 2) (dOp opMul (dCall 2 G_law_next (List.drop 0 dfl_law_next) (aCons (dVar 0) (aCons (dC (.int 3)) aNil))) (dOp opIx (dLst (aCons (dC (.int 1)) (aCons (dOp opAdd (dCall 2 G_law_next (List.drop 0 dfl_law_next) (aCons (dVar 0) (aCons (dOp opPow (dC (.int 10)) (dC (.int 10))) aNil))) (dC (.int 1))) aNil))) (dVar 1)))) (gNm 3))
    (sSeq (sIf (dTst (dOp opEq (dCall 2 G_law_next (List.drop 0 dfl_law_next) (aCons (dVar 0) (aCons (dC (.int 5)) aNil))) (dC (.int 0))))
    (sAsg (dC (.int 1)) (gNm 2))
    sNil)
    (sSeq (sIf (dTst (dOp opEq (dCall 2 G_law_next (List.drop 0 dfl_law_next) (aCons (dVar 0) (aCons (dC (.int 5)) aNil))) (dC (.int 0))))
    (sRet (dTup (aCons (dVar 2) (aCons (dC .non) aNil))))
    sNil)
    (sRet (dTup (aCons (dVar 2) (aCons (dBlt bMax (aCons (dVar 2) (aCons (dVar 3) aNil))) aNil))))))))
def dfl_law_ends_k12 : List D := []
noncomputable def G_law_ends_k12 : GF := fnG 4 2 D_law_ends_k12
noncomputable def D_law_drawn : DS :=
  (sSeq (sAsg (dCall 2 G_law_next (List.drop 0 dfl_law_next) (aCons (dVar 0) (aCons (dC (.int 2)) aNil))) (gNm 2))
    (sSeq (sCel 3 aNil)
    (sSeq (dFor (iRng (aCons (dCall 2 G_law_next (List.drop 0 dfl_law_next) (aCons (dVar 0) (aCons (dOp opAdd (dVar 1) (dC (.int 1))) aNil))) aNil)) (gNm 4)
    (sSeq (sAsg (dCall 2 G_law_ends_k12 (List.drop 0 dfl_law_ends_k12) (aCons (dVar 0) (aCons (dVar 2) aNil))) (gSeq 2 (gsCons (gNm 5) (gsCons (gNm 6) gsNil))))
    (sSeq (sAsg (dCall 2 G_law_ends_k12 (List.drop 0 dfl_law_ends_k12) (aCons (dVar 0) (aCons (dVar 2) aNil))) (gSeq 2 (gsCons (gNm 7) (gsCons (gNm 8) gsNil))))
    (sSeq (sIf (tAnd2 (dTst (dOp opNe (dVar 3) (dLst aNil))) (dTst (dOp opEq (dCall 2 G_law_next (List.drop 0 dfl_law_next) (aCons (dVar 0) (aCons (dC (.int 2)) aNil))) (dC (.int 1)))))
    (sSeq (sAsg (dOp opIx (dVar 3) (dCall 2 G_law_next (List.drop 0 dfl_law_next) (aCons (dVar 0) (aCons (dBlt bLen (aCons (dVar 3) aNil)) aNil)))) (gNm 9))
    (sSeq (sAsg (dOp opIx (dLst (aCons (dTup (aCons (dVar 7) (aCons (dVar 8) aNil))) (aCons (dTup (aCons (dOp opIx (dVar 9) (dC (.int 1))) (aCons (dOp opIx (dVar 9) (dC (.int 3))) aNil))) aNil))) (dCall 2 G_law_next (List.drop 0 dfl_law_next) (aCons (dVar 0) (aCons (dC (.int 2)) aNil)))) (gSeq 2 (gsCons (gNm 7) (gsCons (gNm 8) gsNil))))
    (sIf (tAnd2 (dTst (dOp opIsN (dOp opIx (dVar 9) (dC (.int 2))) (dC .non))) (dTst (dOp opEq (dCall 2 G_law_next (List.drop 0 dfl_law_next) (aCons (dVar 0) (aCons (dC (.int 2)) aNil))) (dC (.int 1)))))
    (sSeq (sAsg (dOp opAdd (dOp opIx (dVar 9) (dC (.int 2))) (dC (.int 1))) (gNm 5))
    (sAsg (dOp opIx (dLst (aCons (dC .non) (aCons (dVar 5) (aCons (dOp opAdd (dVar 5) (dCall 2 G_law_next (List.drop 0 dfl_law_next) (aCons (dVar 0) (aCons (dC (.int 3)) aNil)))) aNil)))) (dCall 2 G_law_next (List.drop 0 dfl_law_next) (aCons (dVar 0) (aCons (dC (.int 3)) aNil)))) (gNm 6)))
    sNil)))
    sNil)
    (sApp (dVar 3) (dTup (aCons (dVar 5) (aCons (dVar 7) (aCons (dVar 6) (aCons (dVar 8) aNil))))))))))
    (sRet (dVar 3)))))
def dfl_law_drawn : List D := []
noncomputable def G_law_drawn : GF := fnG 10 2 D_law_drawn
noncomputable def D_checked_blocks : DS :=
  (sIf (tOr2 (tNot2 (dTru (dBlt (bIsU (.inl "list")) (aCons (dVar 0) (aCons (dC (.ty "list")) aNil))))) (tNot2 (dTru (dBlt bAll (aCons (dLcF (iAny (dVar 0)) (gNm 1) tYes' (dBlt (bIsU (.inr "Block")) (aCons (dVar 1) (aCons (dC (.glo "Block")) aNil))) [1]) aNil)))))
    (sRaise "NoBlock")
    sNil)
def dfl_checked_blocks : List D := []
noncomputable def G_checked_blocks : GF := fnG 2 1 D_checked_blocks
noncomputable def D_first_cell : DS :=
  (sRet (dTup (aCons (dFld "top" (dVar 0)) (aCons (dFld "left" (dVar 0)) aNil))))
def dfl_first_cell : List D := []
noncomputable def G_first_cell : GF := fnG 1 1 D_first_cell
noncomputable def D_form_of : DS :=
  (sSeq (sCel 1 aNil)
    (sSeq (sDct 2)
    (sSeq (sAsg (dC (.int 0)) (gNm 3))
    (sSeq (dFor (iAny (dVar 0)) (gSeq 3 (gsCons (gNm 4) (gsCons (gNm 5) (gsCons (gNm 6) gsNil))))
    (sSeq (dFor (iAny (dItT (dVar 2))) (gSeq 2 (gsCons (gNm 7) (gsCons (gNm 8) gsNil)))
    (sIf (tOr2 (dTst (dOp (opIn3 true) (dVar 7) (dVar 6))) (dTst (dOp opNe (dVar 4) (dOp opAdd (dVar 3) (dC (.int 1))))))
    (sSeq (sApp (dVar 1) (dMake "Block" 5 G_Block_init__ (List.drop 4 dfl_Block_init__) (aCons (dVar 8) (aCons (dOp opIx (dVar 7) (dC (.int 0))) (aCons (dVar 3) (aCons (dOp opIx (dVar 7) (dC (.int 1))) aNil))))))
    (sPopk (dVar 2) (aCons (dVar 7) aNil)))
    sNil))
    (sSeq (dFor (iAny (dVar 6)) (gNm 7)
    (sSetd (dVar 2) (aCons (dVar 7) (aCons (dVar 4) aNil))))
    (sAsg (dVar 5) (gNm 3)))))
    (sSeq (sExt (dVar 1) (dLock (lkVar 2) (dLcF (iItT (dVar 2)) (gSeq 2 (gsCons (gNm 7) (gsCons (gNm 8) gsNil))) tYes' (dMake "Block" 5 G_Block_init__ (List.drop 4 dfl_Block_init__) (aCons (dVar 8) (aCons (dOp opIx (dVar 7) (dC (.int 0))) (aCons (dVar 3) (aCons (dOp opIx (dVar 7) (dC (.int 1))) aNil))))) [7, 8])))
    (sRet (dSortK G_first_cell (dVar 1))))))))
def dfl_form_of : List D := []
noncomputable def G_form_of : GF := fnG 9 1 D_form_of
noncomputable def D_stretches : DS :=
  (sSeq (sAsg (dSortSet (dVar 0)) (gNm 0))
    (sSeq (sCel 1 aNil)
    (sSeq (dFor (iEnumD (aCons (dVar 0) aNil)) (gSeq 2 (gsCons (gNm 2) (gsCons (gNm 3) gsNil)))
    (sSeq (sAsg (dC .non) (gNm 4))
    (sSeq (sIf (dTst (dOp opLt (dOp opAdd (dVar 2) (dC (.int 1))) (dBlt bLen (aCons (dVar 0) aNil))))
    (sAsg (dOp opSub (dOp opIx (dVar 0) (dOp opAdd (dVar 2) (dC (.int 1)))) (dC (.int 1))) (gNm 4))
    sNil)
    (sApp (dVar 1) (dTup (aCons (dVar 3) (aCons (dVar 4) aNil)))))))
    (sRet (dVar 1)))))
def dfl_stretches : List D := []
noncomputable def G_stretches : GF := fnG 5 1 D_stretches
noncomputable def D_cuts_of : DS :=
  (sRet (dOp opAdd (dLcF (iAny (dVar 0)) (gSeq 2 (gsCons (gNm 1) (gsCons (gNm 2) gsNil))) tYes' (dVar 1) [1, 2]) (dLcF (iAny (dVar 0)) (gSeq 2 (gsCons (gNm 1) (gsCons (gNm 2) gsNil))) (dTst (dOp opIsN (dVar 2) (dC .non))) (dOp opAdd (dVar 2) (dC (.int 1))) [1, 2])))
def dfl_cuts_of : List D := []
noncomputable def G_cuts_of : GF := fnG 3 1 D_cuts_of
noncomputable def D_is_at : DS :=
  (sRet (dAnd (dOp opLe (dVar 0) (dVar 2)) (dOr (dOp opIs (dVar 1) (dC .non)) (dOp opLe (dVar 2) (dVar 1)))))
def dfl_is_at : List D := []
noncomputable def G_is_at : GF := fnG 3 3 D_is_at
noncomputable def D_one_alone : DS :=
  (sRet (dAnd (dVar 0) (dNot (dVar 1))))
def dfl_one_alone : List D := []
noncomputable def G_one_alone : GF := fnG 2 2 D_one_alone
noncomputable def D_either : DS :=
  (sRet (dOr (dVar 0) (dVar 1)))
def dfl_either : List D := []
noncomputable def G_either : GF := fnG 2 2 D_either
noncomputable def D_with_run : DS :=
  (sSeq (sIf (tAnd2 (dTst (dOp opNe (dVar 0) (dLst aNil))) (dTst (dOp opEq (dOp opIx (dOp opIx (dVar 0) (dNeg (dC (.int 1)))) (dC (.int 1))) (dOp opSub (dVar 1) (dC (.int 1))))))
    (sRet (dOp opAdd (dSlc (dVar 0) dNoP (dP (dNeg (dC (.int 1))))) (dLst (aCons (dTup (aCons (dOp opIx (dOp opIx (dVar 0) (dNeg (dC (.int 1)))) (dC (.int 0))) (aCons (dVar 2) aNil))) aNil))))
    sNil)
    (sRet (dOp opAdd (dVar 0) (dLst (aCons (dTup (aCons (dVar 1) (aCons (dVar 2) aNil))) aNil)))))
def dfl_with_run : List D := []
noncomputable def G_with_run : GF := fnG 3 3 D_with_run
noncomputable def D_runs_by : DS :=
  (sSeq (sAsg (dLst aNil) (gNm 3))
    (sSeq (dFor (iAny (dCall 1 G_stretches (List.drop 0 dfl_stretches) (aCons (dCall 1 G_cuts_of (List.drop 0 dfl_cuts_of) (aCons (dOp opAdd (dVar 0) (dVar 1)) aNil)) aNil))) (gSeq 2 (gsCons (gNm 4) (gsCons (gNm 5) gsNil)))
    (sSeq (sAsg (dBlt bAny (aCons (dLcF (iAny (dVar 0)) (gNm 7) tYes' (dCall 3 G_is_at (List.drop 0 dfl_is_at) (aCons (dOp opIx (dVar 7) (dC (.int 0))) (aCons (dOp opIx (dVar 7) (dC (.int 1))) (aCons (dVar 4) aNil)))) [7]) aNil)) (gNm 6))
    (sSeq (sAsg (dBlt bAny (aCons (dLcF (iAny (dVar 1)) (gNm 7) tYes' (dCall 3 G_is_at (List.drop 0 dfl_is_at) (aCons (dOp opIx (dVar 7) (dC (.int 0))) (aCons (dOp opIx (dVar 7) (dC (.int 1))) (aCons (dVar 4) aNil)))) [7]) aNil)) (gNm 8))
    (sIf (dTru (dCallA 2 (aCons (dVar 6) (aCons (dVar 8) aNil)) [("either", 2, G_either), ("one_alone", 2, G_one_alone)]))
    (sAsg (dCall 3 G_with_run (List.drop 0 dfl_with_run) (aCons (dVar 3) (aCons (dVar 4) (aCons (dVar 5) aNil)))) (gNm 3))
    sNil))))
    (sRet (dVar 3))))
def dfl_runs_by : List D := []
noncomputable def G_runs_by : GF := fnG 9 3 D_runs_by
noncomputable def D_columns_at : DS :=
  (sRet (dLcF (iAny (dVar 0)) (gNm 2) (dTru (dCall 3 G_is_at (List.drop 0 dfl_is_at) (aCons (dFld "top" (dVar 2)) (aCons (dFld "bottom" (dVar 2)) (aCons (dVar 1) aNil))))) (dTup (aCons (dFld "left" (dVar 2)) (aCons (dFld "right" (dVar 2)) aNil))) [2]))
def dfl_columns_at : List D := []
noncomputable def G_columns_at : GF := fnG 3 2 D_columns_at
noncomputable def D_bands_by : DS :=
  (sSeq (sCel 3 aNil)
    (sSeq (dFor (iAny (dCall 1 G_stretches (List.drop 0 dfl_stretches) (aCons (dCall 1 G_cuts_of (List.drop 0 dfl_cuts_of) (aCons (dLcF (iAny (dOp opAdd (dVar 0) (dVar 1))) (gNm 6) tYes' (dTup (aCons (dFld "top" (dVar 6)) (aCons (dFld "bottom" (dVar 6)) aNil))) [6]) aNil)) aNil))) (gSeq 2 (gsCons (gNm 4) (gsCons (gNm 5) gsNil)))
    (sSeq (sAsg (dCall 3 G_runs_by (List.drop 0 dfl_runs_by) (aCons (dCall 2 G_columns_at (List.drop 0 dfl_columns_at) (aCons (dVar 0) (aCons (dVar 4) aNil))) (aCons (dCall 2 G_columns_at (List.drop 0 dfl_columns_at) (aCons (dVar 1) (aCons (dVar 4) aNil))) (aCons (dVar 2) aNil)))) (gNm 7))
    (sIf (dTst (dOp opNe (dVar 7) (dLst aNil)))
    (sApp (dVar 3) (dTup (aCons (dVar 4) (aCons (dVar 5) (aCons (dVar 7) aNil)))))
    sNil)))
    (sRet (dVar 3))))
def dfl_bands_by : List D := []
noncomputable def G_bands_by : GF := fnG 8 3 D_bands_by
noncomputable def D_Area_init__ : DS :=
  (sSeq (sIf (dTst (dOp opIs (dVar 1) (dC .non)))
    (sAsg (dLst aNil) (gNm 1))
    sNil)
    (sSeq (sExp (dCall 1 G_checked_blocks (List.drop 0 dfl_checked_blocks) (aCons (dVar 1) aNil)))
    (sFldSet "form" (dVar 0) (dCall 1 G_form_of (List.drop 0 dfl_form_of) (aCons (dCall 3 G_bands_by (List.drop 0 dfl_bands_by) (aCons (dVar 1) (aCons (dLst aNil) (aCons (dC (.glo "either")) aNil)))) aNil)))))
def dfl_Area_init__ : List D := [.non]
noncomputable def G_Area_init__ : GF := fnG 2 2 D_Area_init__
noncomputable def D_law_made_k12 : DS :=
  (sRet (dLcF (iAny (dVar 0)) (gSeq 4 (gsCons (gNm 1) (gsCons (gNm 2) (gsCons (gNm 3) (gsCons (gNm 4) gsNil))))) tYes' (dMake "Block" 5 G_Block_init__ (List.drop 4 dfl_Block_init__) (aCons (dVar 1) (aCons (dVar 2) (aCons (dVar 3) (aCons (dVar 4) aNil))))) [1, 2, 3, 4]))
def dfl_law_made_k12 : List D := []
noncomputable def G_law_made_k12 : GF := fnG 5 1 D_law_made_k12
noncomputable def D_law_near_k12 : DS :=
  (sSeq (sAsg (dOp opAdd (dLcF (iAny (dVar 1)) (gNm 3) (dTst (dOp opIsN (dVar 3) (dC .non))) (dVar 3) [3]) (dLst (aCons (dC (.int 1)) aNil))) (gNm 2))
    (sSeq (sAsg (dOp opAdd (dC (.int 1)) (dCall 2 G_law_next (List.drop 0 dfl_law_next) (aCons (dVar 0) (aCons (dOp opPow (dC (.int 10)) (dC (.int 11))) aNil)))) (gNm 4))
    (sSeq (sAsg (dOp opIx (dVar 2) (dCall 2 G_law_next (List.drop 0 dfl_law_next) (aCons (dVar 0) (aCons (dBlt bLen (aCons (dVar 2) aNil)) aNil)))) (gNm 5))
    (sRet (dBlt bMax (aCons (dC (.int 1)) (aCons (dOp opIx (dLst (aCons (dVar 5) (aCons (dOp opSub (dVar 5) (dC (.int 1))) (aCons (dOp opAdd (dVar 5) (dC (.int 1))) (aCons (dVar 4) aNil))))) (dCall 2 G_law_next (List.drop 0 dfl_law_next) (aCons (dVar 0) (aCons (dC (.int 4)) aNil)))) aNil)))))))
def dfl_law_near_k12 : List D := []
noncomputable def G_law_near_k12 : GF := fnG 6 2 D_law_near_k12
noncomputable def D_Area_has : DS :=
  (sSeq (sExp (dCall 1 G_checked_cell (List.drop 0 dfl_checked_cell) (aCons (dVar 1) aNil)))
    (sRet (dBlt bAny (aCons (dLcF (iAny (dFld "form" (dVar 0))) (gNm 2) tYes' (dMeth "Block" "has" 2 G_Block_has (List.drop 0 dfl_Block_has) (dVar 2) (aCons (dVar 1) aNil)) [2]) aNil))))
def dfl_Area_has : List D := []
noncomputable def G_Area_has : GF := fnG 3 2 D_Area_has
noncomputable def D_law_has_k12 : DS :=
  (sSeq (dFor (iAny (dVar 0)) (gSeq 4 (gsCons (gNm 3) (gsCons (gNm 4) (gsCons (gNm 5) (gsCons (gNm 6) gsNil)))))
    (sIf (tAnd2 (dTst (dOp opLe (dVar 3) (dVar 1))) (tAnd2 (dTst (dOp opLe (dVar 4) (dVar 2))) (tOr2 (dTst (dOp opIs (dVar 5) (dC .non))) (dTst (dOp opLe (dVar 1) (dVar 5))))))
    (sIf (tOr2 (dTst (dOp opIs (dVar 6) (dC .non))) (dTst (dOp opLe (dVar 2) (dVar 6))))
    (sRet (dC (.bl true)))
    sNil)
    sNil))
    (sRet (dC (.bl false))))
def dfl_law_has_k12 : List D := []
noncomputable def G_law_has_k12 : GF := fnG 7 3 D_law_has_k12
noncomputable def D_law_refused_k12 : DS :=
  (sSeq (dTry (["NoCell", "NoColumn", "NoBlock"] : List Str) "CellError" 2
    (sExp (dMeth "Area" "has" 2 G_Area_has (List.drop 0 dfl_Area_has) (dVar 0) (aCons (dVar 1) aNil)))
    (sSeq (sAsg (dLst (aCons (dBlt (bIsX (["NoCell", "NoColumn", "NoBlock"] : List Str) (.inr "NoCell")) (aCons (dVar 2) (aCons (dC (.glo "NoCell")) aNil))) (aCons (dBlt (bIsX (["NoCell", "NoColumn", "NoBlock"] : List Str) (.inr "NoArea")) (aCons (dVar 2) (aCons (dC (.glo "NoArea")) aNil))) (aCons (dBlt (bIsX (["NoCell", "NoColumn", "NoBlock"] : List Str) (.inr "NoBlock")) (aCons (dVar 2) (aCons (dC (.glo "NoBlock")) aNil))) (aCons (dBlt (bIsX (["NoCell", "NoColumn", "NoBlock"] : List Str) (.inr "NoNumber")) (aCons (dVar 2) (aCons (dC (.glo "NoNumber")) aNil))) aNil))))) (gNm 3))
    (sRet (dOp opEq (dVar 3) (dLst (aCons (dC (.bl true)) (aCons (dC (.bl false)) (aCons (dC (.bl false)) (aCons (dC (.bl false)) aNil)))))))))
    (sRet (dC (.bl false))))
def dfl_law_refused_k12 : List D := []
noncomputable def G_law_refused_k12 : GF := fnG 4 2 D_law_refused_k12
noncomputable def D_law_k12 : DS :=
  (sSeq (sNew 1 (dCallN 1 G_law_source (List.drop 0 dfl_law_source) (aCons (dCall 2 G_law_cell_at (List.drop 0 dfl_law_cell_at) (aCons (dVar 0) (aCons (dC (.int 0)) aNil))) aNil)))
    (sSeq (sAsg (dCall 2 G_law_drawn (List.drop 0 dfl_law_drawn) (aCons (dVar 1) (aCons (dC (.int 8)) aNil))) (gNm 2))
    (sSeq (sAsg (dMake "Area" 2 G_Area_init__ (List.drop 1 dfl_Area_init__) (aCons (dCall 1 G_law_made_k12 (List.drop 0 dfl_law_made_k12) (aCons (dVar 2) aNil)) aNil)) (gNm 3))
    (sSeq (sCel 4 aNil)
    (sSeq (dFor (iAny (dOp opAdd (dSlc (dVar 0) (dP (dC (.int 1))) (dP (dC (.int 21)))) (dLst (aCons (dC (.int 0)) (aCons (dC (.int 1)) aNil))))) (gNm 5)
    (sSeq (sNew 6 (dCallN 1 G_law_source (List.drop 0 dfl_law_source) (aCons (dVar 5) aNil)))
    (sSeq (sAsg (dOp opIx (dOp opAdd (dVar 2) (dLst (aCons (dTup (aCons (dC (.int 1)) (aCons (dC (.int 1)) (aCons (dC (.int 1)) (aCons (dC (.int 1)) aNil))))) aNil))) (dCall 2 G_law_next (List.drop 0 dfl_law_next) (aCons (dVar 6) (aCons (dOp opAdd (dBlt bLen (aCons (dVar 2) aNil)) (dC (.int 1))) aNil)))) (gNm 7))
    (sSeq (sAsg (dCall 2 G_law_near_k12 (List.drop 0 dfl_law_near_k12) (aCons (dVar 6) (aCons (dLst (aCons (dOp opIx (dVar 7) (dC (.int 0))) (aCons (dOp opIx (dVar 7) (dC (.int 2))) aNil))) aNil))) (gNm 8))
    (sSeq (sAsg (dCall 2 G_law_near_k12 (List.drop 0 dfl_law_near_k12) (aCons (dVar 6) (aCons (dLst (aCons (dOp opIx (dVar 7) (dC (.int 1))) (aCons (dOp opIx (dVar 7) (dC (.int 3))) aNil))) aNil))) (gNm 9))
    (sSeq (sApp (dVar 4) (dTup (aCons (dVar 8) (aCons (dVar 9) aNil))))
    (sSeq (sAsg (dMeth "Area" "has" 2 G_Area_has (List.drop 0 dfl_Area_has) (dVar 3) (aCons (dTup (aCons (dVar 8) (aCons (dVar 9) aNil))) aNil)) (gNm 10))
    (sSeq (sIf (tOr2 (tNot2 (dTru (dBlt (bIsU (.inl "bool")) (aCons (dVar 10) (aCons (dC (.ty "bool")) aNil))))) (dTst (dOp opNe (dVar 10) (dCall 3 G_law_has_k12 (List.drop 0 dfl_law_has_k12) (aCons (dVar 2) (aCons (dVar 8) (aCons (dVar 9) aNil)))))))
    (sRet (dC (.bl false)))
    sNil)
    (sSeq (sAsg (dLst (aCons (dC .non) (aCons (dVar 8) (aCons (dLst (aCons (dVar 8) (aCons (dVar 9) aNil))) (aCons (dTup (aCons (dVar 8) aNil)) (aCons (dTup (aCons (dVar 8) (aCons (dVar 9) (aCons (dC (.int 1)) aNil)))) (aCons (dTup (aCons (dVar 8) (aCons (dC .non) aNil))) (aCons (dTup (aCons (dC (.bl true)) (aCons (dVar 9) aNil))) (aCons (dTup (aCons (dVar 8) (aCons (dC (.bl true)) aNil))) (aCons (dC (.str "A1")) aNil)))))))))) (gNm 11))
    (sSeq (sAsg (dOp opAdd (dVar 11) (dLst (aCons (dTup (aCons (dC (.int 0)) (aCons (dVar 9) aNil))) (aCons (dTup (aCons (dVar 8) (aCons (dC (.int 0)) aNil))) (aCons (dTup (aCons (dOp opSub (dC (.int 0)) (dVar 8)) (aCons (dVar 9) aNil))) (aCons (dTup (aCons (dBlt bStr2 (aCons (dVar 8) aNil)) (aCons (dVar 9) aNil))) (aCons (dTup (aCons (dTup (aCons (dVar 8) (aCons (dVar 9) aNil))) aNil)) (aCons (dMake "Block" 5 G_Block_init__ (List.drop 0 dfl_Block_init__) aNil) (aCons dDct0 aNil))))))))) (gNm 11))
    (sIf (tNot2 (dTru (dCall 2 G_law_refused_k12 (List.drop 0 dfl_law_refused_k12) (aCons (dVar 3) (aCons (dOp opIx (dVar 11) (dCall 2 G_law_next (List.drop 0 dfl_law_next) (aCons (dVar 6) (aCons (dBlt bLen (aCons (dVar 11) aNil)) aNil)))) aNil)))))
    (sRet (dC (.bl false)))
    sNil)))))))))))
    (sRet (dOp opEq (dLcF (iAny (dVar 4)) (gNm 12) tYes' (dMeth "Area" "has" 2 G_Area_has (List.drop 0 dfl_Area_has) (dVar 3) (aCons (dVar 12) aNil)) [12]) (dLcF (iAny (dVar 4)) (gSeq 2 (gsCons (gNm 8) (gsCons (gNm 9) gsNil))) tYes' (dCall 3 G_law_has_k12 (List.drop 0 dfl_law_has_k12) (aCons (dVar 2) (aCons (dVar 8) (aCons (dVar 9) aNil)))) [8, 9]))))))))
def dfl_law_k12 : List D := []
noncomputable def G_law_k12 : GF := fnG 13 1 D_law_k12
end PG
namespace PG
open PySem PySem.Spec PyProof.Rows L2 DL
local macro_rules | `(tactic| trivial) => `(tactic| simp (config := { dsimp := false }) only [*, eq_self, DL.w_ok, DL.w_ex, DL.w_bind, DL.w_bindS, DL.o_some, DL.w_dC, DL.w_var, DL.w_op, DL.a_nil, DL.a_cons, DL.w_tup, DL.w_lst, DL.w_blt, DL.w_call, DL.w_callN, DL.w_or, DL.w_and, DL.w_not, DL.w_neg, DL.w_if, DL.w_chain, DL.t_tru, DL.t_tst, DL.t_and, DL.t_or, DL.t_not, DL.p_no, DL.p_some, DL.w_slc, DL.w_m1, DL.w_m0, DL.w_fld, DL.s_nil, DL.s_brk, DL.s_cnt, DL.s_retN, DL.s_raise, DL.s_seq, DL.s_ret, DL.s_exp, DL.s_if, DL.s_set, DL.s_new, DL.s_cel, DL.s_retC, DL.s_par, DL.s_asg, DL.e_add, DL.e_sub, DL.e_mulR, DL.e_mulL, DL.e_modS, DL.e_divS, DL.e_pow, DL.e_lt, DL.e_le, DL.e_gt, DL.e_ge, DL.e_is, DL.e_isN, DL.e_eqI, DL.e_neI, DL.e_eqS, DL.e_neS, DL.h_bl, DL.h_int, DL.h_non, DL.b_bl, DL.i_int, DL.s_str, DL.l_lst, DL.q_lst, DL.q_tup, DL.c_lst, DL.c_seq, DL.c_lis, DL.x_cel, DL.x_lst, DL.x_tup, DL.at_nn, DL.ix_in, DL.p_cel, DL.e_mulIf, DL.e_mulM, DL.t_len, DL.t_intB, DL.start, DL.s_setIx, DL.s_for, DL.i_rng, DL.i_rng2, DL.w_lc, DL.r_one, DL.s_app, DL.g_cel, DL.w_dct0, DL.w_meth, DL.isC_obj, DL.w_make, DL.w_pick, DL.pick_cons, DL.pick_nil, DL.w_own, DL.w_ne, DL.w_obS, DL.cls_obj, DL.fld_obj, DL.w_fmt, DL.w_fs, DL.w_fsNil, DL.w_fsCons, DL.w_isT, DL.w_revA, DL.s_try, DL.s_raiseI, DL.s_tryP, DL.s_endX, DL.w_isXT, DL.i_any, DL.ia_tup, DL.ia_str, DL.ia_lst, DL.ia_scr, DL.ia_cel, DL.gl_glo, DL.w_callA, DL.s_tryN, DL.s_never, DL.s_fld, DL.w_listN, DL.g_seq, DL.g_cons, DL.g_nil, DL.g_nm, DL.t_yes, DL.wipe_cons, DL.wipe_nil, DL.nn_non, DL.nn_int, DL.nn_str, DL.nn_bl, DL.nn_tup, DL.nn_lst, DL.w_fmR, DL.w_owns, DL.w_nes, DL.w_obSs, DL.w_meths, DL.w_xf, DL.i_zip, DL.w_revB, DL.s_new2, DL.w_callN2, DL.s_dct, DL.s_setd, DL.s_popk, DL.s_ext, DL.w_itT, DL.i_itT, DL.i_enum, DL.w_lock, DL.w_sortSet, DL.w_sortK, List.map_cons, List.map_nil, List.length_cons, List.length_nil, List.cons_append, List.nil_append, List.append_nil, List.drop_zero, List.drop_nil, List.drop_succ_cons, List.getElem?_cons_zero, List.getElem?_cons_succ, List.set_cons_zero, List.set_cons_succ, List.replicate_succ, List.replicate_zero, Option.join_some, Option.map_some, if_true, if_false, Bool.not_true, Bool.not_false, true_and, and_true, Nat.reduceAdd, Nat.reduceSub, Nat.reduceLeDiff, decide_true, decide_false, Bool.false_eq_true, Option.bind_some, Int.reduceToNat, List.getElem?_set_self, Int.reduceLT, Int.reduceLE, Int.reduceNeg, Int.reduceSub, Int.reduceAdd, Int.reduceMul, Int.reducePow, Nat.reduceLT, Int.reduceEq, ite_self, PG.dfl_law_draw, PG.dfl_law_well])
/-! the well of numbers, and what is drawn -/
def Well (μ : List M) (i : Nat) : Prop := ∃ a b c : Int, μ[i]? = some (.lst [.int a, .int b, .int c])
theorem take_set {μ : List M} {i : Nat} {x : M} : (μ.set i x).take μ.length = μ.set i x := List.take_of_length_le (by rw [List.length_set]; exact Nat.le_refl _)
/-- m is μ but for the well at i -/
structure Dr (μ : List M) (i : Nat) (m : List M) : Prop where
  cln0 : Cln μ
  lt : i < μ.length
  ex : ∃ a b c : Int, m = μ.set i (.lst [.int a, .int b, .int c])
section
variable {μ m m' : List M} {i : Nat}
theorem Dr.cln (h : Dr μ i m) : Cln m := by
  obtain ⟨a, b, c, rfl⟩ := h.ex
  exact h.cln0.set rfl
theorem Dr.len (h : Dr μ i m) : m.length = μ.length := by
  obtain ⟨a, b, c, rfl⟩ := h.ex
  exact List.length_set
theorem Dr.well (h : Dr μ i m) : Well m i := by
  obtain ⟨a, b, c, rfl⟩ := h.ex
  exact ⟨a, b, c, List.getElem?_set_self h.lt⟩
theorem Dr.of (hc : Cln μ) (h : Well μ i) : Dr μ i μ := by
  obtain ⟨a, b, c, h⟩ := h
  obtain ⟨hi, h⟩ := List.getElem?_eq_some_iff.mp h
  exact ⟨hc, hi, a, b, c, by rw [← h, List.set_getElem_self]⟩
theorem Dr.step (h : Dr μ i m) {a b c : Int} : Dr μ i (m.set i (.lst [.int a, .int b, .int c])) := by
  obtain ⟨a', b', c', rfl⟩ := h.ex
  exact ⟨h.cln0, h.lt, a, b, c, List.set_set ..⟩
theorem Dr.trans (h : Dr μ i m) (h' : Dr m i m') : Dr μ i m' := by
  obtain ⟨a', b', c', rfl⟩ := h'.ex
  exact h.step
theorem Dr.take (h : Dr μ i m) : m.take μ.length = m := List.take_of_length_le (by rw [h.len]; exact Nat.le_refl _)
theorem Dr.self (h : Dr μ i m) : Dr m i m := .of h.cln h.well
theorem Dr.at_ (h : Dr μ i m) {j : Nat} (n : j ≠ i) : m[j]? = μ[j]? := by
  obtain ⟨a, b, c, rfl⟩ := h.ex
  rw [List.getElem?_set_ne (Ne.symm n)]
/-- a new well behind all cells -/
theorem Dr.new {a b c : Int} (hc : Cln μ) : Dr (μ ++ [.lst [.int a, .int b, .int c]]) μ.length (μ ++ [.lst [.int a, .int b, .int c]]) := .of (hc.snoc rfl) ⟨a, b, c, List.getElem?_concat_length⟩
/-- what a def hands back that drew, only -/
theorem Dr.fr {d : D} {Q : D → List M → Prop} (h : Dr μ i m) (hd : clean 0 d = true) (q : Q d m) : FR μ.length m d Q := ⟨hd, h.cln, by rw [h.take]; exact q⟩
/-- of a def that drew nothing -/
theorem fr_same {d : D} {Q : D → List M → Prop} (hc : Cln μ) (hd : clean 0 d = true) (q : Q d μ) : FR μ.length μ d Q := ⟨hd, hc, by rw [List.take_length]; exact q⟩
end
/-! plain parts of data -/
theorem t_isN {m : List M} {i : Int} : bIsU (.inl "int") m [.int i, .ty "int"] = some (.bl true) := by with_unfolding_all rfl
theorem t_isB {m : List M} {i : Int} : bIsU (.inl "bool") m [.int i, .ty "bool"] = some (.bl false) := by with_unfolding_all rfl
theorem t_isS {m : List M} {x : Str} : bIsU (.inl "str") m [.str x, .ty "str"] = some (.bl true) := by with_unfolding_all rfl
end PG
namespace PG
open PySem PySem.Spec PyProof.Rows L2 DL
local macro_rules | `(tactic| trivial) => `(tactic| simp (config := { dsimp := false }) only [*, eq_self, DL.w_ok, DL.w_ex, DL.w_bind, DL.w_bindS, DL.o_some, DL.w_dC, DL.w_var, DL.w_op, DL.a_nil, DL.a_cons, DL.w_tup, DL.w_lst, DL.w_blt, DL.w_call, DL.w_callN, DL.w_or, DL.w_and, DL.w_not, DL.w_neg, DL.w_if, DL.w_chain, DL.t_tru, DL.t_tst, DL.t_and, DL.t_or, DL.t_not, DL.p_no, DL.p_some, DL.w_slc, DL.w_m1, DL.w_m0, DL.w_fld, DL.s_nil, DL.s_brk, DL.s_cnt, DL.s_retN, DL.s_raise, DL.s_seq, DL.s_ret, DL.s_exp, DL.s_if, DL.s_set, DL.s_new, DL.s_cel, DL.s_retC, DL.s_par, DL.s_asg, DL.e_add, DL.e_sub, DL.e_mulR, DL.e_mulL, DL.e_modS, DL.e_divS, DL.e_pow, DL.e_lt, DL.e_le, DL.e_gt, DL.e_ge, DL.e_is, DL.e_isN, DL.e_eqI, DL.e_neI, DL.e_eqS, DL.e_neS, DL.h_bl, DL.h_int, DL.h_non, DL.b_bl, DL.i_int, DL.s_str, DL.l_lst, DL.q_lst, DL.q_tup, DL.c_lst, DL.c_seq, DL.c_lis, DL.x_cel, DL.x_lst, DL.x_tup, DL.at_nn, DL.ix_in, DL.p_cel, DL.e_mulIf, DL.e_mulM, DL.t_len, DL.t_intB, DL.start, DL.s_setIx, DL.s_for, DL.i_rng, DL.i_rng2, DL.w_lc, DL.r_one, DL.s_app, DL.g_cel, DL.w_dct0, DL.w_meth, DL.isC_obj, DL.w_make, DL.w_pick, DL.pick_cons, DL.pick_nil, DL.w_own, DL.w_ne, DL.w_obS, DL.cls_obj, DL.fld_obj, DL.w_fmt, DL.w_fs, DL.w_fsNil, DL.w_fsCons, DL.w_isT, DL.w_revA, DL.s_try, DL.s_raiseI, DL.s_tryP, DL.s_endX, DL.w_isXT, DL.i_any, DL.ia_tup, DL.ia_str, DL.ia_lst, DL.ia_scr, DL.ia_cel, DL.gl_glo, DL.w_callA, DL.s_tryN, DL.s_never, DL.s_fld, DL.w_listN, DL.g_seq, DL.g_cons, DL.g_nil, DL.g_nm, DL.t_yes, DL.wipe_cons, DL.wipe_nil, DL.nn_non, DL.nn_int, DL.nn_str, DL.nn_bl, DL.nn_tup, DL.nn_lst, DL.w_fmR, DL.w_owns, DL.w_nes, DL.w_obSs, DL.w_meths, DL.w_xf, DL.i_zip, DL.w_revB, DL.s_new2, DL.w_callN2, DL.s_dct, DL.s_setd, DL.s_popk, DL.s_ext, DL.w_itT, DL.i_itT, DL.i_enum, DL.w_lock, DL.w_sortSet, DL.w_sortK, List.map_cons, List.map_nil, List.length_cons, List.length_nil, List.cons_append, List.nil_append, List.append_nil, List.drop_zero, List.drop_nil, List.drop_succ_cons, List.getElem?_cons_zero, List.getElem?_cons_succ, List.set_cons_zero, List.set_cons_succ, List.replicate_succ, List.replicate_zero, Option.join_some, Option.map_some, if_true, if_false, Bool.not_true, Bool.not_false, true_and, and_true, Nat.reduceAdd, Nat.reduceSub, Nat.reduceLeDiff, decide_true, decide_false, Bool.false_eq_true, Option.bind_some, Int.reduceToNat, List.getElem?_set_self, Int.reduceLT, Int.reduceLE, Int.reduceNeg, Int.reduceSub, Int.reduceAdd, Int.reduceMul, Int.reducePow, Nat.reduceLT, Int.reduceEq, ite_self, PG.dfl_is_count, PG.dfl_is_end, PG.dfl_is_whole])
/-! numbers, cells -/
/-- a datum of a kind that isinstance tells -/
def kn : D → Bool
  | .non => true | .bl _ => true | .int _ => true | .str _ => true | .tup _ => true | .lst _ => true | .dct _ _ => true
  | .obj _ _ _ => true
  | .txt => true
  | _ => false
def whole : D → Bool
  | .int _ => true
  | _ => false
def cnt : D → Bool
  | .int i => decide (1 ≤ i)
  | _ => false
section
variable {μ : List M} {d e : D} {i j : Int} {b : Bool} {x : Str} {l : List D}
def isIB : D → Bool
  | .int _ => true | .bl _ => true
  | _ => false
def isBo : D → Bool
  | .bl _ => true
  | _ => false
def isTu : D → Bool
  | .tup _ => true
  | _ => false
def isSt : D → Bool
  | .str _ => true
  | .txt => true
  | _ => false
def isLs : D → Bool
  | .lst _ => true
  | _ => false
theorem isU_int (h : kn d = true) : bIsU (.inl "int") μ [d, .ty "int"] = some (.bl (isIB d)) := by
  cases d <;> first | (with_unfolding_all rfl) | cases h
theorem isU_bool (h : kn d = true) : bIsU (.inl "bool") μ [d, .ty "bool"] = some (.bl (isBo d)) := by
  cases d <;> first | (with_unfolding_all rfl) | cases h
theorem isU_tup (h : kn d = true) : bIsU (.inl "tuple") μ [d, .ty "tuple"] = some (.bl (isTu d)) := by
  cases d <;> first | (with_unfolding_all rfl) | cases h
theorem isU_lst (h : kn d = true) : bIsU (.inl "list") μ [d, .ty "list"] = some (.bl (isLs d)) := by
  cases d <;> first | (with_unfolding_all rfl) | cases h
local macro_rules | `(tactic| trivial) => `(tactic| simp (config := { dsimp := false }) only [*, eq_self, DL.w_ok, DL.w_ex, DL.w_bind, DL.w_bindS, DL.o_some, DL.w_dC, DL.w_var, DL.w_op, DL.a_nil, DL.a_cons, DL.w_tup, DL.w_lst, DL.w_blt, DL.w_call, DL.w_callN, DL.w_or, DL.w_and, DL.w_not, DL.w_neg, DL.w_if, DL.w_chain, DL.t_tru, DL.t_tst, DL.t_and, DL.t_or, DL.t_not, DL.p_no, DL.p_some, DL.w_slc, DL.w_m1, DL.w_m0, DL.w_fld, DL.s_nil, DL.s_brk, DL.s_cnt, DL.s_retN, DL.s_raise, DL.s_seq, DL.s_ret, DL.s_exp, DL.s_if, DL.s_set, DL.s_new, DL.s_cel, DL.s_retC, DL.s_par, DL.s_asg, DL.e_add, DL.e_sub, DL.e_mulR, DL.e_mulL, DL.e_modS, DL.e_divS, DL.e_pow, DL.e_lt, DL.e_le, DL.e_gt, DL.e_ge, DL.e_is, DL.e_isN, DL.e_eqI, DL.e_neI, DL.e_eqS, DL.e_neS, DL.h_bl, DL.h_int, DL.h_non, DL.b_bl, DL.i_int, DL.s_str, DL.l_lst, DL.q_lst, DL.q_tup, DL.c_lst, DL.c_seq, DL.c_lis, DL.x_cel, DL.x_lst, DL.x_tup, DL.at_nn, DL.ix_in, DL.p_cel, DL.e_mulIf, DL.e_mulM, DL.t_len, DL.t_intB, DL.start, DL.s_setIx, DL.s_for, DL.i_rng, DL.i_rng2, DL.w_lc, DL.r_one, DL.s_app, DL.g_cel, DL.w_dct0, DL.w_meth, DL.isC_obj, DL.w_make, DL.w_pick, DL.pick_cons, DL.pick_nil, DL.w_own, DL.w_ne, DL.w_obS, DL.cls_obj, DL.fld_obj, DL.w_fmt, DL.w_fs, DL.w_fsNil, DL.w_fsCons, DL.w_isT, DL.w_revA, DL.s_try, DL.s_raiseI, DL.s_tryP, DL.s_endX, DL.w_isXT, DL.i_any, DL.ia_tup, DL.ia_str, DL.ia_lst, DL.ia_scr, DL.ia_cel, DL.gl_glo, DL.w_callA, DL.s_tryN, DL.s_never, DL.s_fld, DL.w_listN, DL.g_seq, DL.g_cons, DL.g_nil, DL.g_nm, DL.t_yes, DL.wipe_cons, DL.wipe_nil, DL.nn_non, DL.nn_int, DL.nn_str, DL.nn_bl, DL.nn_tup, DL.nn_lst, DL.w_fmR, DL.w_owns, DL.w_nes, DL.w_obSs, DL.w_meths, DL.w_xf, DL.i_zip, DL.w_revB, DL.s_new2, DL.w_callN2, DL.s_dct, DL.s_setd, DL.s_popk, DL.s_ext, DL.w_itT, DL.i_itT, DL.i_enum, DL.w_lock, DL.w_sortSet, DL.w_sortK, List.map_cons, List.map_nil, List.length_cons, List.length_nil, List.cons_append, List.nil_append, List.append_nil, List.drop_zero, List.drop_nil, List.drop_succ_cons, List.getElem?_cons_zero, List.getElem?_cons_succ, List.set_cons_zero, List.set_cons_succ, List.replicate_succ, List.replicate_zero, Option.join_some, Option.map_some, if_true, if_false, Bool.not_true, Bool.not_false, true_and, and_true, Nat.reduceAdd, Nat.reduceSub, Nat.reduceLeDiff, decide_true, decide_false, Bool.false_eq_true, Option.bind_some, Int.reduceToNat, List.getElem?_set_self, Int.reduceLT, Int.reduceLE, Int.reduceNeg, Int.reduceSub, Int.reduceAdd, Int.reduceMul, Int.reducePow, Nat.reduceLT, Int.reduceEq, ite_self, isIB, isBo, isTu, isSt, isLs, whole, cnt, isNn, PG.dfl_is_count, PG.dfl_is_end, PG.dfl_is_whole])
theorem x_whole (hc : Cln μ) (h : kn d = true) : G_is_whole [d] μ = .ok (.bl (whole d)) μ := by
  apply eq_ok
  unfold G_is_whole
  refine wo_fn rfl ?_
  unfold D_is_whole
  have e1 := isU_int (μ := μ) h
  have e2 := isU_bool (μ := μ) h
  cases d <;> first | (exact absurd h Bool.false_ne_true) | (trivial; exact fr_same hc rfl ⟨rfl, rfl⟩)
theorem x_count (hc : Cln μ) (h : kn d = true) : G_is_count [d] μ = .ok (.bl (cnt d)) μ := by
  apply eq_ok
  unfold G_is_count
  refine wo_fn rfl ?_
  unfold D_is_count
  have e1 := x_whole hc h
  cases d <;> first | (exact absurd h Bool.false_ne_true) | (trivial; exact fr_same hc rfl ⟨rfl, rfl⟩)
def isEnd (f : Int) : D → Bool
  | .non => true
  | .int i => decide (1 ≤ i) && decide (f ≤ i)
  | _ => false
theorem x_end (hc : Cln μ) (h : kn d = true) : G_is_end [.int i, d] μ = .ok (.bl (isEnd i d)) μ := by
  apply eq_ok
  unfold G_is_end
  refine wo_fn rfl ?_
  unfold D_is_end
  have e1 := x_count hc h
  cases d with
  | int j =>
    trivial
    by_cases h1 : 1 ≤ j
    · trivial
      exact fr_same hc rfl ⟨by unfold isEnd; simp [h1], rfl⟩
    · trivial
      exact fr_same hc rfl ⟨by unfold isEnd; simp [h1], rfl⟩
  | _ => first | (exact absurd h Bool.false_ne_true) | (trivial; exact fr_same hc rfl ⟨rfl, rfl⟩)
end
end PG
namespace PG
open PySem PySem.Spec PyProof.Rows L2 DL
local macro_rules | `(tactic| trivial) => `(tactic| simp (config := { dsimp := false }) only [*, eq_self, DL.w_ok, DL.w_ex, DL.w_bind, DL.w_bindS, DL.o_some, DL.w_dC, DL.w_var, DL.w_op, DL.a_nil, DL.a_cons, DL.w_tup, DL.w_lst, DL.w_blt, DL.w_call, DL.w_callN, DL.w_or, DL.w_and, DL.w_not, DL.w_neg, DL.w_if, DL.w_chain, DL.t_tru, DL.t_tst, DL.t_and, DL.t_or, DL.t_not, DL.p_no, DL.p_some, DL.w_slc, DL.w_m1, DL.w_m0, DL.w_fld, DL.s_nil, DL.s_brk, DL.s_cnt, DL.s_retN, DL.s_raise, DL.s_seq, DL.s_ret, DL.s_exp, DL.s_if, DL.s_set, DL.s_new, DL.s_cel, DL.s_retC, DL.s_par, DL.s_asg, DL.e_add, DL.e_sub, DL.e_mulR, DL.e_mulL, DL.e_modS, DL.e_divS, DL.e_pow, DL.e_lt, DL.e_le, DL.e_gt, DL.e_ge, DL.e_is, DL.e_isN, DL.e_eqI, DL.e_neI, DL.e_eqS, DL.e_neS, DL.h_bl, DL.h_int, DL.h_non, DL.b_bl, DL.i_int, DL.s_str, DL.l_lst, DL.q_lst, DL.q_tup, DL.c_lst, DL.c_seq, DL.c_lis, DL.x_cel, DL.x_lst, DL.x_tup, DL.at_nn, DL.ix_in, DL.p_cel, DL.e_mulIf, DL.e_mulM, DL.t_len, DL.t_intB, DL.start, DL.s_setIx, DL.s_for, DL.i_rng, DL.i_rng2, DL.w_lc, DL.r_one, DL.s_app, DL.g_cel, DL.w_dct0, DL.w_meth, DL.isC_obj, DL.w_make, DL.w_pick, DL.pick_cons, DL.pick_nil, DL.w_own, DL.w_ne, DL.w_obS, DL.cls_obj, DL.fld_obj, DL.w_fmt, DL.w_fs, DL.w_fsNil, DL.w_fsCons, DL.w_isT, DL.w_revA, DL.s_try, DL.s_raiseI, DL.s_tryP, DL.s_endX, DL.w_isXT, DL.i_any, DL.ia_tup, DL.ia_str, DL.ia_lst, DL.ia_scr, DL.ia_cel, DL.gl_glo, DL.w_callA, DL.s_tryN, DL.s_never, DL.s_fld, DL.w_listN, DL.g_seq, DL.g_cons, DL.g_nil, DL.g_nm, DL.t_yes, DL.wipe_cons, DL.wipe_nil, DL.nn_non, DL.nn_int, DL.nn_str, DL.nn_bl, DL.nn_tup, DL.nn_lst, DL.w_fmR, DL.w_owns, DL.w_nes, DL.w_obSs, DL.w_meths, DL.w_xf, DL.i_zip, DL.w_revB, DL.s_new2, DL.w_callN2, DL.s_dct, DL.s_setd, DL.s_popk, DL.s_ext, DL.w_itT, DL.i_itT, DL.i_enum, DL.w_lock, DL.w_sortSet, DL.w_sortK, List.map_cons, List.map_nil, List.length_cons, List.length_nil, List.cons_append, List.nil_append, List.append_nil, List.drop_zero, List.drop_nil, List.drop_succ_cons, List.getElem?_cons_zero, List.getElem?_cons_succ, List.set_cons_zero, List.set_cons_succ, List.replicate_succ, List.replicate_zero, Option.join_some, Option.map_some, if_true, if_false, Bool.not_true, Bool.not_false, true_and, and_true, Nat.reduceAdd, Nat.reduceSub, Nat.reduceLeDiff, decide_true, decide_false, Bool.false_eq_true, Option.bind_some, Int.reduceToNat, List.getElem?_set_self, Int.reduceLT, Int.reduceLE, Int.reduceNeg, Int.reduceSub, Int.reduceAdd, Int.reduceMul, Int.reducePow, Nat.reduceLT, Int.reduceEq, ite_self, isIB, isBo, isTu, isSt, isLs, isNn, PG.dfl_Block_init__, PG.dfl_checked_cell, PG.dfl_is_cell, PG.dfl_is_count, PG.dfl_is_end, PG.dfl_is_whole])
section
variable {μ : List M} {d e : D} {i j : Int} {b : Bool} {x : Str} {l : List D}
/-! cells -/
def cellD : D → Bool
  | .tup l => decide (l.length = 2) && l.all cnt
  | _ => false
/-- the items of a tuple of two are of kinds that isinstance tells -/
def knC : D → Bool
  | .tup l => l.all kn
  | d => kn d
theorem knC_kn (h : knC d = true) : kn d = true := by cases d <;> first | rfl | exact h
theorem bools_map {f : D → Bool} : ∀ l : List D, bools (l.map fun x => .bl (f x)) = some (l.map f)
  | [] => rfl
  | x :: l => by rw [List.map_cons]; show (bools (l.map fun x => D.bl (f x))).map (f x :: ·) = _; rw [bools_map l]; rfl
theorem all_map {m : List M} {f : D → Bool} {l : List D} : bAll m [.lst (l.map fun x => .bl (f x))] = some (.bl (l.all f)) := by
  show (match lstOf m (.lst (l.map fun x => D.bl (f x))) with | some l => (bools l).map fun bs => D.bl (List.all bs id) | none => none) = _
  rw [l_lst]
  show (bools (l.map fun x => D.bl (f x))).map _ = _
  rw [bools_map]
  show some (D.bl ((l.map f).all id)) = _
  rw [List.all_map]
  rfl
theorem x_cell (hc : Cln μ) (h : knC d = true) : G_is_cell [d] μ = .ok (.bl (cellD d)) μ := by
  apply eq_ok
  unfold G_is_cell
  refine wo_fn rfl ?_
  unfold D_is_cell
  have e1 := isU_tup (μ := μ) (knC_kn h)
  cases d with
  | tup l =>
    have e2 : bLen μ [.tup l] = some (.int l.length) := t_len q_tup
    have hk : ∀ x ∈ l, kn x = true := List.all_eq_true.mp h
    trivial
    by_cases hl : (l.length : Int) = 2
    · have hl' : l.length = 2 := by omega
      have e3 := lc_map (m := μ) (g := fun _ => True) (tg := gNm 1) (el := dCall 1 G_is_count [] (aCons (dVar 1) aNil)) (env0 := [some (.tup l), none]) (fun x => .bl (cnt x)) ⟨⟩ l (fun x hx => ⟨_, rfl, by
        have e4 := x_count hc (hk x hx)
        apply eq_ok
        trivial⟩) (by omega)
      have e5 := all_map (m := μ) (f := cnt) (l := l)
      clear hl'
      trivial
      refine fr_same hc rfl ?_
      exact ⟨by unfold cellD; simp [show l.length = 2 by omega], rfl⟩
    · have hl' : l.length ≠ 2 := fun e => hl (by rw [e]; rfl)
      trivial
      refine fr_same hc rfl ?_
      exact ⟨by unfold cellD; simp [hl'], rfl⟩
  | _ => first | (exact absurd h Bool.false_ne_true) | (trivial; exact fr_same hc rfl ⟨rfl, rfl⟩)
theorem x_checked (hc : Cln μ) (h : knC d = true) : G_checked_cell [d] μ = if cellD d = true then .ok .non μ else .ex "NoCell" [] [] μ := by
  have e1 := x_cell hc h
  cases hd : cellD d with
  | true =>
    rw [if_pos rfl]
    apply eq_ok
    unfold G_checked_cell
    refine wo_fn rfl ?_
    unfold D_checked_cell
    trivial
    exact fr_same hc rfl ⟨rfl, rfl⟩
  | false =>
    rw [if_neg Bool.false_ne_true]
    apply eq_ex
    unfold G_checked_cell
    refine wo_fn rfl ?_
    unfold D_checked_cell
    trivial
    exact ⟨rfl, List.take_length⟩
/-! blocks -/
def opt : Option Int → D
  | none => .non
  | some i => .int i
structure Blk where
  t : Int
  l : Int
  b : Option Int
  r : Option Int
abbrev bNs : List Str := ["top", "left", "bottom", "right"]
def blkD (b : Blk) : D := .obj "Block" bNs [.int b.t, .int b.l, opt b.b, opt b.r]
def leO (i : Int) : Option Int → Bool
  | none => true
  | some j => decide (i ≤ j)
structure Blk.Ok (b : Blk) : Prop where
  ot : 1 ≤ b.t
  ol : 1 ≤ b.l
  ob : leO b.t b.b = true
  or_ : leO b.l b.r = true
def blkOk (t l b r : D) : Bool := cnt t && (cnt l && ((match t with | .int i => isEnd i b | _ => false) && match l with | .int i => isEnd i r | _ => false))
theorem kn_end {t : Int} (h : isEnd t d = true) : kn d = true ∧ clean 0 d = true := by
  cases d <;> first | exact ⟨rfl, rfl⟩ | cases h
theorem cnt_int (h : cnt d = true) : ∃ i : Int, d = .int i ∧ 1 ≤ i := by
  cases d <;> first | exact ⟨_, rfl, of_decide_eq_true h⟩ | cases h
theorem x_init {t l b r : D} (hc : Cln μ) (ht : kn t = true) (hl : kn l = true) (hb : kn b = true) (hr : kn r = true) :
    makeD "Block" 5 G_Block_init__ [t, l, b, r] μ = if blkOk t l b r = true then .ok (.obj "Block" bNs [t, l, b, r]) μ else .ex "NoBlock" [] [] μ := by
  have hc2 : Cln (μ ++ [M.obj "Block" [] []]) := hc.snoc rfl
  have hlen : μ.length < (μ ++ [M.obj "Block" [] []]).length := by rw [List.length_append]; exact Nat.lt_succ_self _
  have c1 := x_count hc2 ht
  have c2 := x_count hc2 hl
  have key : (blkOk t l b r = true → ∃ m2, G_Block_init__ [.cel μ.length, t, l, b, r] (μ ++ [M.obj "Block" [] []]) = .ok .non m2 ∧ m2 = μ ++ [M.obj "Block" bNs [t, l, b, r]]) ∧
      (blkOk t l b r = false → G_Block_init__ [.cel μ.length, t, l, b, r] (μ ++ [M.obj "Block" [] []]) = .ex "NoBlock" [] [] (μ ++ [M.obj "Block" [] []])) := by
    constructor
    · intro hok
      unfold blkOk at hok
      have h1 := Bool.and_eq_true_iff.mp hok
      have h2 := Bool.and_eq_true_iff.mp h1.2
      have h3 := Bool.and_eq_true_iff.mp h2.2
      obtain ⟨ti, rfl, t1⟩ := cnt_int h1.1
      obtain ⟨li, rfl, l1⟩ := cnt_int h2.1
      have hb2 : isEnd ti b = true := h3.1
      have hr2 : isEnd li r = true := h3.2
      refine ⟨_, ?_, rfl⟩
      apply eq_ok
      unfold G_Block_init__
      refine wo_fn rfl ?_
      unfold D_Block_init__
      have c3 := x_end (i := ti) hc2 hb
      have c4 := x_end (i := li) hc2 hr
      rw [hb2] at c3
      rw [hr2] at c4
      have k1 := h1.1
      have k2 := h2.1
      rw [k1] at c1
      rw [k2] at c2
      have f1 : celO (μ ++ [M.obj "Block" [] []]) (.cel μ.length) = some (μ.length, ("Block" : Str), ([] : List Str), ([] : List D)) := co_cel List.getElem?_concat_length
      have st : ∀ {a b : M}, (μ ++ [a]).set μ.length b = μ ++ [b] := fun {a b} => by rw [List.set_append_right _ _ (Nat.le_refl _), Nat.sub_self]; rfl
      have f2 : ∀ {ns l}, celO (μ ++ [M.obj "Block" ns l]) (.cel μ.length) = some (μ.length, ("Block" : Str), ns, l) := co_cel List.getElem?_concat_length
      have p1 : putD "top" (.int ti) [] [] = ((["top"] : List Str), ([D.int ti] : List D)) := rfl
      have p2 : putD "left" (.int li) ["top"] [.int ti] = ((["top", "left"] : List Str), ([D.int ti, D.int li] : List D)) := by with_unfolding_all rfl
      have p3 : putD "bottom" b ["top", "left"] [.int ti, .int li] = ((["top", "left", "bottom"] : List Str), ([D.int ti, D.int li, b] : List D)) := by with_unfolding_all rfl
      have p4 : putD "right" r ["top", "left", "bottom"] [.int ti, .int li, b] = ((["top", "left", "bottom", "right"] : List Str), ([D.int ti, D.int li, b, r] : List D)) := by with_unfolding_all rfl
      trivial
      have hcl : cleanM 0 (M.obj "Block" ["top", "left", "bottom", "right"] [.int ti, .int li, b, r]) = true := by
        show (true && (true && (clean 0 b && (clean 0 r && true)))) = true
        rw [(kn_end hb2).2, (kn_end hr2).2]; rfl
      refine ⟨rfl, hc.snoc hcl, rfl, ?_⟩
      rw [List.take_of_length_le (by rw [List.length_append, List.length_append]; exact Nat.le_refl _)]
    · intro hok
      apply eq_ex
      unfold G_Block_init__
      refine wo_fn rfl ?_
      unfold D_Block_init__
      have fin : FR (μ ++ [M.obj "Block" [] []]).length (μ ++ [M.obj "Block" [] []]) .non (fun _ _ => False) ∨ True := .inr ⟨⟩
      have ex : cleans 0 ([] : List D) = true ∧ Cln (μ ++ [M.obj "Block" [] []]) ∧ ("NoBlock" : Str) = "NoBlock" ∧ ([] : List Str) = [] ∧ ([] : List D) = [] ∧ (μ ++ [M.obj "Block" [] []]).take (μ ++ [M.obj "Block" [] []]).length = μ ++ [M.obj "Block" [] []] :=
        ⟨rfl, hc2, rfl, rfl, rfl, List.take_length⟩
      cases k1 : cnt t with
      | false =>
        rw [k1] at c1
        trivial <;> exact ex
      | true =>
        rw [k1] at c1
        cases k2 : cnt l with
        | false =>
          rw [k2] at c2
          trivial <;> exact ex
        | true =>
          rw [k2] at c2
          obtain ⟨ti, rfl, t1⟩ := cnt_int k1
          obtain ⟨li, rfl, l1⟩ := cnt_int k2
          have c3 := x_end (i := ti) hc2 hb
          have c4 := x_end (i := li) hc2 hr
          cases k3 : isEnd ti b with
          | false =>
            rw [k3] at c3
            trivial <;> exact ex
          | true =>
            rw [k3] at c3
            cases k4 : isEnd li r with
            | false =>
              rw [k4] at c4
              trivial <;> exact ex
            | true =>
              exfalso
              unfold blkOk at hok
              rw [k1, k2] at hok
              have hok : (true && (true && (isEnd ti b && isEnd li r))) = false := hok
              rw [k3, k4] at hok
              cases hok
  cases hok : blkOk t l b r with
  | true =>
    obtain ⟨m2, e1, rfl⟩ := key.1 hok
    have hcl : cleans 0 [t, l, b, r] = true := by
      unfold blkOk at hok
      have h1 := Bool.and_eq_true_iff.mp hok
      have h2 := Bool.and_eq_true_iff.mp h1.2
      have h3 := Bool.and_eq_true_iff.mp h2.2
      obtain ⟨ti, rfl, t1⟩ := cnt_int h1.1
      obtain ⟨li, rfl, l1⟩ := cnt_int h2.1
      show (true && (true && (clean 0 b && (clean 0 r && true)))) = true
      rw [(kn_end (t := ti) h3.1).2, (kn_end (t := li) h3.2).2]; rfl
    rw [if_pos rfl]
    exact makeD_ok hc rfl hcl e1
  | false =>
    rw [if_neg Bool.false_ne_true]
    exact makeD_ex hc rfl (key.2 hok)
end
end PG
namespace PG
open PySem PySem.Spec PyProof.Rows L2 DL
local macro_rules | `(tactic| trivial) => `(tactic| simp (config := { dsimp := false }) only [*, eq_self, DL.w_ok, DL.w_ex, DL.w_bind, DL.w_bindS, DL.o_some, DL.w_dC, DL.w_var, DL.w_op, DL.a_nil, DL.a_cons, DL.w_tup, DL.w_lst, DL.w_blt, DL.w_call, DL.w_callN, DL.w_or, DL.w_and, DL.w_not, DL.w_neg, DL.w_if, DL.w_chain, DL.t_tru, DL.t_tst, DL.t_and, DL.t_or, DL.t_not, DL.p_no, DL.p_some, DL.w_slc, DL.w_m1, DL.w_m0, DL.w_fld, DL.s_nil, DL.s_brk, DL.s_cnt, DL.s_retN, DL.s_raise, DL.s_seq, DL.s_ret, DL.s_exp, DL.s_if, DL.s_set, DL.s_new, DL.s_cel, DL.s_retC, DL.s_par, DL.s_asg, DL.e_add, DL.e_sub, DL.e_mulR, DL.e_mulL, DL.e_modS, DL.e_divS, DL.e_pow, DL.e_lt, DL.e_le, DL.e_gt, DL.e_ge, DL.e_is, DL.e_isN, DL.e_eqI, DL.e_neI, DL.e_eqS, DL.e_neS, DL.h_bl, DL.h_int, DL.h_non, DL.b_bl, DL.i_int, DL.s_str, DL.l_lst, DL.q_lst, DL.q_tup, DL.c_lst, DL.c_seq, DL.c_lis, DL.x_cel, DL.x_lst, DL.x_tup, DL.at_nn, DL.ix_in, DL.p_cel, DL.e_mulIf, DL.e_mulM, DL.t_len, DL.t_intB, DL.start, DL.s_setIx, DL.s_for, DL.i_rng, DL.i_rng2, DL.w_lc, DL.r_one, DL.s_app, DL.g_cel, DL.w_dct0, DL.w_meth, DL.isC_obj, DL.w_make, DL.w_pick, DL.pick_cons, DL.pick_nil, DL.w_own, DL.w_ne, DL.w_obS, DL.cls_obj, DL.fld_obj, DL.w_fmt, DL.w_fs, DL.w_fsNil, DL.w_fsCons, DL.w_isT, DL.w_revA, DL.s_try, DL.s_raiseI, DL.s_tryP, DL.s_endX, DL.w_isXT, DL.i_any, DL.ia_tup, DL.ia_str, DL.ia_lst, DL.ia_scr, DL.ia_cel, DL.gl_glo, DL.w_callA, DL.s_tryN, DL.s_never, DL.s_fld, DL.w_listN, DL.g_seq, DL.g_cons, DL.g_nil, DL.g_nm, DL.t_yes, DL.wipe_cons, DL.wipe_nil, DL.nn_non, DL.nn_int, DL.nn_str, DL.nn_bl, DL.nn_tup, DL.nn_lst, DL.w_fmR, DL.w_owns, DL.w_nes, DL.w_obSs, DL.w_meths, DL.w_xf, DL.i_zip, DL.w_revB, DL.s_new2, DL.w_callN2, DL.s_dct, DL.s_setd, DL.s_popk, DL.s_ext, DL.w_itT, DL.i_itT, DL.i_enum, DL.w_lock, DL.w_sortSet, DL.w_sortK, List.map_cons, List.map_nil, List.length_cons, List.length_nil, List.cons_append, List.nil_append, List.append_nil, List.drop_zero, List.drop_nil, List.drop_succ_cons, List.getElem?_cons_zero, List.getElem?_cons_succ, List.set_cons_zero, List.set_cons_succ, List.replicate_succ, List.replicate_zero, Option.join_some, Option.map_some, if_true, if_false, Bool.not_true, Bool.not_false, true_and, and_true, Nat.reduceAdd, Nat.reduceSub, Nat.reduceLeDiff, decide_true, decide_false, Bool.false_eq_true, Option.bind_some, Int.reduceToNat, List.getElem?_set_self, Int.reduceLT, Int.reduceLE, Int.reduceNeg, Int.reduceSub, Int.reduceAdd, Int.reduceMul, Int.reducePow, Nat.reduceLT, Int.reduceEq, ite_self, PG.dfl_is_count, PG.dfl_letters_of])
/-! column letters: plain numbers and lists of codes -/
def LOk (l : List Nat) : Prop := ∀ c ∈ l, 65 ≤ c ∧ c ≤ 90
theorem LOk.init {l : List Nat} {c : Nat} (h : LOk (l ++ [c])) : LOk l := fun x hx => h x (List.mem_append_left _ hx)
end PG
namespace PG
open PySem PySem.Spec PyProof.Rows L2 DL
/-! blocks as they are made, their fields -/
section
variable {μ : List M} {d e : D} {i j : Int} {x : Str} {l : List D} {b c : Blk} {o : Option Int}
theorem kn_opt : kn (opt o) = true := by cases o <;> rfl
theorem isNon_opt : isNn (opt o) = o.isNone := by cases o <;> rfl
theorem clean_opt {n : Nat} : clean n (opt o) = true := by cases o <;> rfl
theorem clean_blk {n : Nat} : clean n (blkD b) = true := by
  show (true && (true && (clean n (opt b.b) && (clean n (opt b.r) && true)))) = true
  rw [clean_opt, clean_opt]; rfl
theorem isEnd_opt {f : Int} (hf : 1 ≤ f) : isEnd f (opt o) = leO f o := by
  cases o with
  | none => rfl
  | some i =>
    show (decide (1 ≤ i) && decide (f ≤ i)) = decide (f ≤ i)
    by_cases h : f ≤ i
    · rw [decide_eq_true h, decide_eq_true (show 1 ≤ i by omega)]; rfl
    · rw [decide_eq_false h, Bool.and_false]
theorem ok_iff : blkOk (.int b.t) (.int b.l) (opt b.b) (opt b.r) = true ↔ b.Ok := by
  unfold blkOk
  rw [Bool.and_eq_true, Bool.and_eq_true, Bool.and_eq_true]
  constructor
  · rintro ⟨h1, h2, h3, h4⟩
    have h1 : 1 ≤ b.t := of_decide_eq_true h1
    have h2 : 1 ≤ b.l := of_decide_eq_true h2
    exact ⟨h1, h2, (isEnd_opt h1).symm.trans h3, (isEnd_opt h2).symm.trans h4⟩
  · intro h
    exact ⟨decide_eq_true h.ot, decide_eq_true h.ol, (isEnd_opt h.ot).trans h.ob, (isEnd_opt h.ol).trans h.or_⟩
theorem x_make (hc : Cln μ) (h : b.Ok) : makeD "Block" 5 G_Block_init__ [.int b.t, .int b.l, opt b.b, opt b.r] μ = .ok (blkD b) μ := by
  rw [x_init hc rfl rfl kn_opt kn_opt, if_pos (ok_iff.mpr h)]
  rfl
theorem c_blk : clsAt μ (blkD b) = some ("Block" : Str) := rfl
theorem f_top : fldAt μ "top" (blkD b) = some (.int b.t) := by with_unfolding_all rfl
theorem f_left : fldAt μ "left" (blkD b) = some (.int b.l) := by with_unfolding_all rfl
theorem f_bottom : fldAt μ "bottom" (blkD b) = some (opt b.b) := by with_unfolding_all rfl
theorem f_right : fldAt μ "right" (blkD b) = some (opt b.r) := by with_unfolding_all rfl
theorem is_has : isC "Block" "has" μ (blkD b) = True := eq_true ⟨rfl, by with_unfolding_all rfl⟩
theorem is_size : isC "Block" "size" μ (blkD b) = True := eq_true ⟨rfl, by with_unfolding_all rfl⟩
end
local macro_rules | `(tactic| trivial) => `(tactic| simp (config := { dsimp := false }) only [*, eq_self, DL.w_ok, DL.w_ex, DL.w_bind, DL.w_bindS, DL.o_some, DL.w_dC, DL.w_var, DL.w_op, DL.a_nil, DL.a_cons, DL.w_tup, DL.w_lst, DL.w_blt, DL.w_call, DL.w_callN, DL.w_or, DL.w_and, DL.w_not, DL.w_neg, DL.w_if, DL.w_chain, DL.t_tru, DL.t_tst, DL.t_and, DL.t_or, DL.t_not, DL.p_no, DL.p_some, DL.w_slc, DL.w_m1, DL.w_m0, DL.w_fld, DL.s_nil, DL.s_brk, DL.s_cnt, DL.s_retN, DL.s_raise, DL.s_seq, DL.s_ret, DL.s_exp, DL.s_if, DL.s_set, DL.s_new, DL.s_cel, DL.s_retC, DL.s_par, DL.s_asg, DL.e_add, DL.e_sub, DL.e_mulR, DL.e_mulL, DL.e_modS, DL.e_divS, DL.e_pow, DL.e_lt, DL.e_le, DL.e_gt, DL.e_ge, DL.e_is, DL.e_isN, DL.e_eqI, DL.e_neI, DL.e_eqS, DL.e_neS, DL.h_bl, DL.h_int, DL.h_non, DL.b_bl, DL.i_int, DL.s_str, DL.l_lst, DL.q_lst, DL.q_tup, DL.c_lst, DL.c_seq, DL.c_lis, DL.x_cel, DL.x_lst, DL.x_tup, DL.at_nn, DL.ix_in, DL.p_cel, DL.e_mulIf, DL.e_mulM, DL.t_len, DL.t_intB, DL.start, DL.s_setIx, DL.s_for, DL.i_rng, DL.i_rng2, DL.w_lc, DL.r_one, DL.s_app, DL.g_cel, DL.w_dct0, DL.w_meth, DL.isC_obj, DL.w_make, DL.w_pick, DL.pick_cons, DL.pick_nil, DL.w_own, DL.w_ne, DL.w_obS, DL.cls_obj, DL.fld_obj, DL.w_fmt, DL.w_fs, DL.w_fsNil, DL.w_fsCons, DL.w_isT, DL.w_revA, DL.s_try, DL.s_raiseI, DL.s_tryP, DL.s_endX, DL.w_isXT, DL.i_any, DL.ia_tup, DL.ia_str, DL.ia_lst, DL.ia_scr, DL.ia_cel, DL.gl_glo, DL.w_callA, DL.s_tryN, DL.s_never, DL.s_fld, DL.w_listN, DL.g_seq, DL.g_cons, DL.g_nil, DL.g_nm, DL.t_yes, DL.wipe_cons, DL.wipe_nil, DL.nn_non, DL.nn_int, DL.nn_str, DL.nn_bl, DL.nn_tup, DL.nn_lst, DL.w_fmR, DL.w_owns, DL.w_nes, DL.w_obSs, DL.w_meths, DL.w_xf, DL.i_zip, DL.w_revB, DL.s_new2, DL.w_callN2, DL.s_dct, DL.s_setd, DL.s_popk, DL.s_ext, DL.w_itT, DL.i_itT, DL.i_enum, DL.w_lock, DL.w_sortSet, DL.w_sortK, List.map_cons, List.map_nil, List.length_cons, List.length_nil, List.cons_append, List.nil_append, List.append_nil, List.drop_zero, List.drop_nil, List.drop_succ_cons, List.getElem?_cons_zero, List.getElem?_cons_succ, List.set_cons_zero, List.set_cons_succ, List.replicate_succ, List.replicate_zero, Option.join_some, Option.map_some, if_true, if_false, Bool.not_true, Bool.not_false, true_and, and_true, Nat.reduceAdd, Nat.reduceSub, Nat.reduceLeDiff, decide_true, decide_false, Bool.false_eq_true, Option.bind_some, Int.reduceToNat, List.getElem?_set_self, Int.reduceLT, Int.reduceLE, Int.reduceNeg, Int.reduceSub, Int.reduceAdd, Int.reduceMul, Int.reducePow, Nat.reduceLT, Int.reduceEq, ite_self, c_blk, f_top, f_left, f_bottom, f_right, is_has, is_size, isNon_opt, Option.isNone_none, Option.isNone_some, PG.dfl_Block_eq__, PG.dfl_Block_has, PG.dfl_Block_init__, PG.dfl_Block_size, PG.dfl_checked_cell, PG.dfl_is_count, PG.dfl_is_end])
section
variable {μ : List M} {d e : D} {i j : Int} {x : Str} {l : List D} {b c : Blk} {o : Option Int}
def hasB (b : Blk) (i j : Int) : Bool := decide (b.t ≤ i) && (decide (b.l ≤ j) && (leO i b.b && leO j b.r))
theorem x_has (hc : Cln μ) (hi : 1 ≤ i) (hj : 1 ≤ j) : G_Block_has [blkD b, .tup [.int i, .int j]] μ = .ok (.bl (hasB b i j)) μ := by
  apply eq_ok
  unfold G_Block_has
  refine wo_fn rfl ?_
  unfold D_Block_has
  have e1 := x_checked (d := .tup [.int i, .int j]) hc rfl
  have e2 : cellD (.tup [.int i, .int j]) = true := by
    show (true && (decide (1 ≤ i) && (decide (1 ≤ j) && true))) = true
    rw [decide_eq_true hi, decide_eq_true hj]; rfl
  rw [if_pos e2] at e1
  clear e2
  trivial
  unfold hasB
  by_cases h1 : i < b.t
  · trivial
    refine fr_same hc rfl ?_
    exact ⟨by first | (simp [leO, *]; done) | (simp [leO, *]; omega) | (simp [leO, *]; intros; omega), rfl⟩
  · have h1' : b.t ≤ i := by omega
    by_cases h2 : j < b.l
    · trivial
      refine fr_same hc rfl ?_
      exact ⟨by first | (simp [leO, *]; done) | (simp [leO, *]; omega) | (simp [leO, *]; intros; omega), rfl⟩
    · have h2' : b.l ≤ j := by omega
      cases hb : b.b with
      | none =>
        cases hr : b.r with
        | none =>
          have z : isNn (opt none) = true := rfl
          trivial
          refine fr_same hc rfl ?_
          exact ⟨by first | (simp [leO, *]; done) | (simp [leO, *]; omega) | (simp [leO, *]; intros; omega), rfl⟩
        | some r =>
          have z : isNn (opt none) = true := rfl
          have z2 : isNn (opt (some r)) = false := rfl
          have z3 : opLe μ (.int j) (opt (some r)) = some (.bl (decide (j ≤ r))) := rfl
          trivial
          refine fr_same hc rfl ?_
          exact ⟨by first | (simp [leO, *]; done) | (simp [leO, *]; omega) | (simp [leO, *]; intros; omega), rfl⟩
      | some q =>
        have z4 : isNn (opt (some q)) = false := rfl
        have z5 : opLe μ (.int i) (opt (some q)) = some (.bl (decide (i ≤ q))) := rfl
        by_cases h3 : i ≤ q
        · cases hr : b.r with
          | none =>
            have z : isNn (opt none) = true := rfl
            trivial
            refine fr_same hc rfl ?_
            exact ⟨by first | (simp [leO, *]; done) | (simp [leO, *]; omega) | (simp [leO, *]; intros; omega), rfl⟩
          | some r =>
            have z2 : isNn (opt (some r)) = false := rfl
            have z3 : opLe μ (.int j) (opt (some r)) = some (.bl (decide (j ≤ r))) := rfl
            trivial
            refine fr_same hc rfl ?_
            exact ⟨by first | (simp [leO, *]; done) | (simp [leO, *]; omega) | (simp [leO, *]; intros; omega), rfl⟩
        · trivial
          refine fr_same hc rfl ?_
          exact ⟨by first | (simp [leO, *]; done) | (simp [leO, *]; omega) | (simp [leO, *]; intros; omega), rfl⟩
theorem isBlk : bIsU (.inr "Block") μ [blkD b, .glo "Block"] = some (.bl true) := by with_unfolding_all rfl
def four (b : Blk) : D := .tup [.int b.t, .int b.l, opt b.b, opt b.r]
theorem eqB_opt {o p : Option Int} : eqB (opt o) (opt p) = decide (o = p) := by
  cases o with
  | none => cases p <;> (unfold opt eqB; rfl)
  | some i => cases p with
    | none => unfold opt eqB; rfl
    | some j =>
      show (i == j) = _
      by_cases h : i = j
      · subst h; simp
      · simp [h]
instance : DecidableEq Blk := fun a b => by
  cases a; cases b
  exact decidable_of_iff' _ (Blk.mk.injEq ..).to_iff
theorem plain_opt : plain (opt o) = true := by cases o <;> rfl
theorem dep_opt : dep (opt o) = 0 := by cases o <;> rfl
theorem plain_four : plain (four b) = true := by
  show (true && (true && (plain (opt b.b) && (plain (opt b.r) && true)))) = true
  rw [plain_opt, plain_opt]; rfl
theorem dep_four : dep (four b) = 1 := by
  show max 0 (max 0 (max (dep (opt b.b)) (max (dep (opt b.r)) 0))) + 1 = 1
  rw [dep_opt, dep_opt]; rfl
theorem clean_four {n : Nat} : clean n (four b) = true := by
  show (true && (true && (clean n (opt b.b) && (clean n (opt b.r) && true)))) = true
  rw [clean_opt, clean_opt]; rfl
end
end PG
namespace PG
/-! stretches of rows, of columns; runs of columns: plain mathematics -/
abbrev Iv := Int × Option Int
def isAt (p : Iv) (n : Int) : Bool := decide (p.1 ≤ n) && leO n p.2
theorem isAt_iff {p : Iv} {n : Int} : isAt p n = true ↔ p.1 ≤ n ∧ leO n p.2 = true := by
  unfold isAt
  rw [Bool.and_eq_true, decide_eq_true_iff]
theorem leO_some {i j : Int} : leO i (some j) = true ↔ i ≤ j := decide_eq_true_iff
theorem leO_le {i j : Int} {o : Option Int} (h : leO j o = true) (k : i ≤ j) : leO i o = true := by
  cases o with
  | none => rfl
  | some q => exact leO_some.mpr (Int.le_trans k (leO_some.mp h))
def cutsOf (es : List Iv) : List Int := es.map (·.1) ++ es.filterMap fun p => p.2.map (· + 1)
def spans : List Int → List Iv
  | [] => []
  | [a] => [(a, none)]
  | a :: b :: r => (a, some (b - 1)) :: spans (b :: r)
/-- stretches one behind the other, from c on -/
def Cont (c : Int) : List Iv → Prop
  | [] => False
  | (a, none) :: ps => a = c ∧ ps = []
  | (a, some q) :: ps => a = c ∧ c ≤ q ∧ Cont (q + 1) ps
theorem spans_cont : ∀ {a : Int} {r : List Int}, (a :: r).Pairwise (· < ·) → Cont a (spans (a :: r))
  | a, [], _ => ⟨rfl, rfl⟩
  | a, b :: r, h => by
    obtain ⟨h1, h2⟩ := List.pairwise_cons.mp h
    have := h1 b List.mem_cons_self
    refine ⟨rfl, by omega, ?_⟩
    have e : b - 1 + 1 = b := by omega
    rw [e]
    exact spans_cont h2
/-- no cut stands within a stretch -/
theorem spans_cut : ∀ {cs : List Int} {p : Iv} {n c : Int}, cs.Pairwise (· < ·) → p ∈ spans cs → isAt p n = true → c ∈ cs → (c ≤ n ↔ c ≤ p.1)
  | [], p, n, c, _, m, _, _ => nomatch m
  | [a], p, n, c, _, m, h, mc => by
    obtain rfl := List.mem_singleton.mp m
    obtain rfl := List.mem_singleton.mp mc
    exact ⟨fun _ => Int.le_refl _, fun _ => (isAt_iff.mp h).1⟩
  | a :: b :: r, p, n, c, hs, m, h, mc => by
    obtain ⟨h1, h2⟩ := List.pairwise_cons.mp hs
    obtain ⟨g1, g2⟩ := isAt_iff.mp h
    rcases List.mem_cons.mp m with rfl | m2
    · have g2 : n ≤ b - 1 := leO_some.mp g2
      have g1 : a ≤ n := g1
      show c ≤ n ↔ c ≤ a
      rcases List.mem_cons.mp mc with rfl | mc
      · exact ⟨fun _ => Int.le_refl _, fun _ => g1⟩
      · have : b ≤ c := by
          rcases List.mem_cons.mp mc with rfl | mc
          · exact Int.le_refl _
          · exact Int.le_of_lt ((List.pairwise_cons.mp h2).1 c mc)
        have := h1 c mc
        exact ⟨fun _ => by omega, fun _ => by omega⟩
    · rcases List.mem_cons.mp mc with rfl | mc
      · have pf : ∀ {cs : List Int} {p : Iv}, p ∈ spans cs → p.1 ∈ cs := fun {cs} => by
          induction cs with
          | nil => intro p m; exact nomatch m
          | cons x cs ih =>
            intro p m
            cases cs with
            | nil => rw [List.mem_singleton.mp m]; exact List.mem_cons_self
            | cons y cs =>
              rcases List.mem_cons.mp m with rfl | m
              · exact List.mem_cons_self
              · exact List.mem_cons_of_mem _ (ih m)
        have := h1 p.1 (pf m2)
        exact ⟨fun _ => by omega, fun _ => by omega⟩
      · exact spans_cut h2 m2 h mc
def Asc (rs : List Iv) : Prop := rs.Pairwise fun a b => ∃ q, a.2 = some q ∧ q < b.1
/-! ### runs -/
def withRun (rs : List Iv) (f : Int) (l : Option Int) : List Iv := match rs.getLast? with
  | some x => if x.2 = some (f - 1) then rs.dropLast ++ [(x.1, l)] else rs ++ [(f, l)]
  | none => rs ++ [(f, l)]
def goR (K : Int → Bool) : List Iv → List Iv → List Iv
  | rs, [] => rs
  | rs, p :: ps => goR K (if K p.1 = true then withRun rs p.1 p.2 else rs) ps
/-- the runs of what is kept up to e -/
structure RInv (K : Int → Bool) (rs : List Iv) (e : Option Int) : Prop where
  in_ : ∀ p ∈ rs, leO p.1 p.2 = true ∧ K (p.1 - 1) = false ∧ ∀ n, isAt p n = true → K n = true ∧ leO n e = true
  all_ : ∀ n, leO n e = true → K n = true → ∃ p ∈ rs, isAt p n = true
  end_ : ∀ p ∈ rs, ∀ q, p.2 = some q → leO (q + 1) e = true → K (q + 1) = false
  asc : Asc rs
section
variable {K : Int → Bool}
theorem RInv.step {rs : List Iv} {c : Int} {e : Option Int} (h : RInv K rs (some (c - 1))) (hc : leO c e = true) (hk : ∀ n, c ≤ n → leO n e = true → K n = K c) : RInv K (if K c = true then withRun rs c e else rs) e := by
  have up : ∀ {n}, leO n (some (c - 1)) = true → leO n e = true := fun {n} z => leO_le hc (by have := leO_some.mp z; omega)
  have bd : ∀ p ∈ rs, ∃ q, p.2 = some q ∧ q ≤ c - 1 ∧ p.1 ≤ q := fun p m => by
    obtain ⟨h1, _, h3⟩ := h.in_ p m
    cases e2 : p.2 with
    | none =>
      have := (h3 (max p.1 c) (isAt_iff.mpr ⟨by omega, by rw [e2]; rfl⟩)).2
      have := leO_some.mp this
      omega
    | some q =>
      rw [e2] at h1
      have h1 := leO_some.mp h1
      have := (h3 q (isAt_iff.mpr ⟨h1, by rw [e2]; exact leO_some.mpr (Int.le_refl _)⟩)).2
      exact ⟨q, rfl, leO_some.mp this, h1⟩
  have old : ∀ p ∈ rs, K (p.1 - 1) = false ∧ leO p.1 p.2 = true ∧ ∀ n, isAt p n = true → K n = true ∧ leO n e = true := fun p m =>
    ⟨(h.in_ p m).2.1, (h.in_ p m).1, fun n z => ⟨((h.in_ p m).2.2 n z).1, up ((h.in_ p m).2.2 n z).2⟩⟩
  cases kc : K c with
  | false =>
    rw [if_neg Bool.false_ne_true]
    refine ⟨fun p m => ⟨(old p m).2.1, (old p m).1, (old p m).2.2⟩, fun n hn kn => ?_, fun p m q e1 e2 => ?_, h.asc⟩
    · by_cases z : c ≤ n
      · rw [hk n z hn, kc] at kn; cases kn
      · exact h.all_ n (leO_some.mpr (by omega)) kn
    · obtain ⟨q', e3, q1, _⟩ := bd p m
      rw [e1] at e3
      cases e3
      by_cases z : q + 1 ≤ c - 1
      · exact h.end_ p m q e1 (leO_some.mpr z)
      · rw [show q + 1 = c by omega, kc]
  | true =>
    rw [if_pos rfl]
    have kcs : ∀ n, c ≤ n → leO n e = true → K n = true := fun n z1 z2 => by rw [hk n z1 z2, kc]
    unfold withRun
    cases el : rs.getLast? with
    | none =>
      have er : rs = [] := List.getLast?_eq_none_iff.mp el
      subst er
      have k1 : K (c - 1) = false := by
        cases z : K (c - 1) with
        | false => rfl
        | true =>
          obtain ⟨p, m, _⟩ := h.all_ (c - 1) (leO_some.mpr (Int.le_refl _)) z
          cases m
      refine ⟨fun p m => ?_, fun n hn kn => ?_, fun p m q e1 e2 => ?_, List.pairwise_singleton _ _⟩
      · rw [List.mem_singleton.mp m]
        exact ⟨hc, k1, fun n z => ⟨kcs n (isAt_iff.mp z).1 (isAt_iff.mp z).2, (isAt_iff.mp z).2⟩⟩
      · by_cases z : c ≤ n
        · exact ⟨_, List.mem_cons_self, isAt_iff.mpr ⟨z, hn⟩⟩
        · obtain ⟨p, m, _⟩ := h.all_ n (leO_some.mpr (by omega)) kn
          cases m
      · rw [List.mem_singleton.mp m] at e1
        have e1 : e = some q := e1
        rw [e1] at e2
        have := leO_some.mp e2
        omega
    | some x =>
      obtain ⟨ys, er⟩ := List.getLast?_eq_some_iff.mp el
      have mx : x ∈ rs := by rw [er]; simp
      obtain ⟨qx, ex, qx1, qx2⟩ := bd x mx
      have asc := h.asc
      rw [er] at asc
      obtain ⟨asc1, _, asc2⟩ := List.pairwise_append.mp asc
      have lst : ∀ p ∈ ys, ∃ q, p.2 = some q ∧ q < x.1 := fun p m => asc2 p m x List.mem_cons_self
      have my : ∀ p ∈ ys, p ∈ rs := fun p m => by rw [er]; exact List.mem_append_left _ m
      dsimp only
      by_cases z : x.2 = some (c - 1)
      · rw [if_pos z]
        have ed : rs.dropLast = ys := by rw [er, List.dropLast_concat]
        rw [ed]
        rw [z] at ex
        cases ex
        refine ⟨fun p m => ?_, fun n hn kn => ?_, fun p m q e1 e2 => ?_, List.pairwise_append.mpr ⟨asc1, List.pairwise_singleton _ _, fun p m y my' => ?_⟩⟩
        · rcases List.mem_append.mp m with m | m
          · have := old p (my p m); exact ⟨this.2.1, this.1, this.2.2⟩
          · rw [List.mem_singleton.mp m]
            refine ⟨leO_le hc (by show x.1 ≤ c; omega), (old x mx).1, fun n z1 => ?_⟩
            obtain ⟨g1, g2⟩ := isAt_iff.mp z1
            refine ⟨?_, g2⟩
            by_cases z2 : c ≤ n
            · exact kcs n z2 g2
            · exact ((old x mx).2.2 n (isAt_iff.mpr ⟨g1, by rw [z]; exact leO_some.mpr (by omega)⟩)).1
        · by_cases z2 : c ≤ n
          · exact ⟨(x.1, e), by simp, isAt_iff.mpr ⟨by show x.1 ≤ n; omega, hn⟩⟩
          · obtain ⟨p, m, z3⟩ := h.all_ n (leO_some.mpr (by omega)) kn
            rw [er] at m
            rcases List.mem_append.mp m with m | m
            · exact ⟨p, List.mem_append_left _ m, z3⟩
            · rw [List.mem_singleton.mp m] at z3
              exact ⟨(x.1, e), by simp, isAt_iff.mpr ⟨(isAt_iff.mp z3).1, hn⟩⟩
        · rcases List.mem_append.mp m with m | m
          · obtain ⟨q', e3, q3⟩ := lst p m
            rw [e1] at e3
            cases e3
            exact h.end_ p (my p m) q e1 (leO_some.mpr (by omega))
          · rw [List.mem_singleton.mp m] at e1
            have e1 : e = some q := e1
            rw [e1] at e2
            have := leO_some.mp e2
            omega
        · rw [List.mem_singleton.mp my']
          exact lst p m
      · rw [if_neg z]
        have k1 : K (c - 1) = false := by
          cases z1 : K (c - 1) with
          | false => rfl
          | true =>
            exfalso
            obtain ⟨p, m, z2⟩ := h.all_ (c - 1) (leO_some.mpr (Int.le_refl _)) z1
            obtain ⟨q, e1, q1, q2⟩ := bd p m
            have g2 := (isAt_iff.mp z2).2
            rw [e1] at g2
            have g2 := leO_some.mp g2
            have m' := m
            rw [er] at m'
            rcases List.mem_append.mp m' with m' | m'
            · obtain ⟨q', e3, q3⟩ := lst p m'
              rw [e1] at e3
              cases e3
              omega
            · rw [List.mem_singleton.mp m'] at e1
              exact z (by rw [e1, show q = c - 1 by omega])
        refine ⟨fun p m => ?_, fun n hn kn => ?_, fun p m q e1 e2 => ?_, List.pairwise_append.mpr ⟨h.asc, List.pairwise_singleton _ _, fun p m y my' => ?_⟩⟩
        · rcases List.mem_append.mp m with m | m
          · have := old p m; exact ⟨this.2.1, this.1, this.2.2⟩
          · rw [List.mem_singleton.mp m]
            exact ⟨hc, k1, fun n z => ⟨kcs n (isAt_iff.mp z).1 (isAt_iff.mp z).2, (isAt_iff.mp z).2⟩⟩
        · by_cases z2 : c ≤ n
          · exact ⟨(c, e), by simp, isAt_iff.mpr ⟨z2, hn⟩⟩
          · obtain ⟨p, m, z3⟩ := h.all_ n (leO_some.mpr (by omega)) kn
            exact ⟨p, List.mem_append_left _ m, z3⟩
        · rcases List.mem_append.mp m with m | m
          · obtain ⟨q', e3, q1, _⟩ := bd p m
            rw [e1] at e3
            cases e3
            by_cases z2 : q + 1 ≤ c - 1
            · exact h.end_ p m q e1 (leO_some.mpr z2)
            · have eq : q = c - 1 := by omega
              subst eq
              exfalso
              have m' := m
              rw [er] at m'
              rcases List.mem_append.mp m' with m' | m'
              · obtain ⟨q', e3, q3⟩ := lst p m'
                rw [e1] at e3
                cases e3
                omega
              · rw [List.mem_singleton.mp m'] at e1
                exact z e1
          · rw [List.mem_singleton.mp m] at e1
            have e1 : e = some q := e1
            rw [e1] at e2
            have := leO_some.mp e2
            omega
        · rw [List.mem_singleton.mp my']
          obtain ⟨q, e1, q1, _⟩ := bd p m
          exact ⟨q, e1, by show q < c; omega⟩
theorem goR_inv : ∀ {ps : List Iv} {c : Int} {rs : List Iv}, Cont c ps → (∀ p ∈ ps, ∀ n, isAt p n = true → K n = K p.1) → RInv K rs (some (c - 1)) → RInv K (goR K rs ps) none
  | [], _, _, h, _, _ => h.elim
  | (a, none) :: ps, c, rs, h, hk, I => by
    obtain ⟨rfl, rfl⟩ := h
    exact I.step rfl fun n z1 z2 => hk _ List.mem_cons_self n (isAt_iff.mpr ⟨z1, z2⟩)
  | (a, some q) :: ps, c, rs, h, hk, I => by
    obtain ⟨rfl, h2, h3⟩ := h
    have I2 := I.step (e := some q) (leO_some.mpr h2) fun n z1 z2 => hk _ List.mem_cons_self n (isAt_iff.mpr ⟨z1, z2⟩)
    show RInv K (goR K (if K a = true then withRun rs a (some q) else rs) ps) none
    refine goR_inv h3 (fun p m2 => hk p (List.mem_cons_of_mem _ m2)) ?_
    rw [show q + 1 - 1 = q by omega]
    exact I2
end
/-- the runs of all that is kept -/
structure Canon (K : Int → Bool) (rs : List Iv) : Prop where
  in_ : ∀ p ∈ rs, leO p.1 p.2 = true ∧ K (p.1 - 1) = false ∧ ∀ n, isAt p n = true → K n = true
  all_ : ∀ n, K n = true → ∃ p ∈ rs, isAt p n = true
  end_ : ∀ p ∈ rs, ∀ q, p.2 = some q → K (q + 1) = false
  asc : Asc rs
theorem Canon.any {K : Int → Bool} {rs : List Iv} (h : Canon K rs) (n : Int) : rs.any (isAt · n) = K n := by
  cases k : K n with
  | true =>
    obtain ⟨p, m, e⟩ := h.all_ n k
    exact List.any_eq_true.mpr ⟨p, m, e⟩
  | false =>
    rw [List.any_eq_false]
    intro p m e
    rw [(h.in_ p m).2.2 n e] at k; cases k
theorem RInv.canon {K : Int → Bool} {rs : List Iv} (h : RInv K rs none) : Canon K rs :=
  ⟨fun p m => ⟨(h.in_ p m).1, (h.in_ p m).2.1, fun n z => ((h.in_ p m).2.2 n z).1⟩, fun n => h.all_ n rfl, fun p m q e => h.end_ p m q e rfl, h.asc⟩
end PG
namespace PG
/-! ### the fewest blocks of rows of like runs -/
def addAll (be : List (Iv × Int)) (f : Int) : List Iv → List (Iv × Int)
  | [] => be
  | r :: rs => addAll (if r ∈ be.map (·.1) then be else be ++ [(r, f)]) f rs
theorem addAll_mem {f : Int} {r : Iv} {t : Int} : ∀ {rs : List Iv} {be : List (Iv × Int)}, (r, t) ∈ addAll be f rs → (r, t) ∈ be ∨ (t = f ∧ r ∈ rs ∧ r ∉ be.map (·.1))
  | [], be, h => .inl h
  | x :: rs, be, h => by
    unfold addAll at h
    rcases addAll_mem h with h | ⟨h1, h2, h3⟩
    · split at h
      · exact .inl h
      · rename_i hx
        rcases List.mem_append.mp h with h | h
        · exact .inl h
        · cases List.mem_singleton.mp h
          exact .inr ⟨rfl, List.mem_cons_self, hx⟩
    · refine .inr ⟨h1, List.mem_cons_of_mem _ h2, fun m => h3 ?_⟩
      split
      · exact m
      · rw [List.map_append]; exact List.mem_append_left _ m
theorem addAll_old {f : Int} {e : Iv × Int} : ∀ {rs : List Iv} {be : List (Iv × Int)}, e ∈ be → e ∈ addAll be f rs
  | [], be, h => h
  | x :: rs, be, h => by
    unfold addAll
    refine addAll_old ?_
    split
    · exact h
    · exact List.mem_append_left _ h
theorem addAll_key {f : Int} {r : Iv} : ∀ {rs : List Iv} {be : List (Iv × Int)}, r ∈ rs → ∃ t, (r, t) ∈ addAll be f rs
  | x :: rs, be, h => by
    unfold addAll
    rcases List.mem_cons.mp h with rfl | h
    · by_cases hx : r ∈ be.map (·.1)
      · rw [if_pos hx]
        obtain ⟨e, me, rfl⟩ := List.mem_map.mp hx
        exact ⟨e.2, addAll_old me⟩
      · rw [if_neg hx]
        exact ⟨f, addAll_old (List.mem_append_right _ List.mem_cons_self)⟩
    · exact addAll_key h
theorem addAll_nodup {f : Int} : ∀ {rs : List Iv} {be : List (Iv × Int)}, (be.map (·.1)).Nodup → ((addAll be f rs).map (·.1)).Nodup
  | [], be, h => h
  | x :: rs, be, h => by
    unfold addAll
    refine addAll_nodup ?_
    split
    · exact h
    · rename_i hx
      rw [List.map_append]
      exact List.nodup_append.mpr ⟨h, List.pairwise_singleton _ _, fun a ma b mb => by
        rw [List.mem_singleton.mp mb]
        exact fun z => hx (by have z : a = x := z; rw [← z]; exact ma)⟩
theorem addAll_len {f : Int} : ∀ {rs : List Iv} {be : List (Iv × Int)}, (addAll be f rs).length ≤ be.length + rs.length
  | [], be => Nat.le_refl _
  | x :: rs, be => by
    unfold addAll
    refine Nat.le_trans addAll_len ?_
    split
    · rw [List.length_cons]; omega
    · rw [List.length_append, List.length_cons]
      show be.length + 1 + rs.length ≤ be.length + (rs.length + 1)
      omega
def drp (q f : Int) (rs : List Iv) (e : Iv × Int) : Bool := !decide (e.1 ∈ rs) || decide (f ≠ q + 1)
def blkOf (q : Option Int) (e : Iv × Int) : Blk := ⟨e.2, e.1.1, q, e.1.2⟩
/-- found, begun, the last row so far -/
structure FS where
  fo : List Blk
  be : List (Iv × Int)
  q : Option Int
def fstep (s : FS) (b : Iv × List Iv) : FS :=
  ⟨s.fo ++ (s.be.filter (drp (s.q.getD 0) b.1.1 b.2)).map (blkOf s.q), addAll (s.be.filter fun e => !drp (s.q.getD 0) b.1.1 b.2 e) b.1.1 b.2, b.1.2⟩
def formU (bands : List (Iv × List Iv)) : List Blk :=
  let s := bands.foldl fstep ⟨[], [], some 0⟩
  s.fo ++ s.be.map (blkOf s.q)
/-- a greatest block of like runs -/
structure Big (R : Int → List Iv) (b : Blk) : Prop where
  t1 : 1 ≤ b.t
  ne : leO b.t b.b = true
  all_ : ∀ i, b.t ≤ i → leO i b.b = true → (b.l, b.r) ∈ R i
  top : (b.l, b.r) ∉ R (b.t - 1)
  bot : ∀ q, b.b = some q → (b.l, b.r) ∉ R (q + 1)
structure FInv (R : Int → List Iv) (s : FS) : Prop where
  nd : (s.be.map (·.1)).Nodup
  be : ∀ e ∈ s.be, 1 ≤ e.2 ∧ leO e.2 s.q = true ∧ (∀ i, e.2 ≤ i → leO i s.q = true → e.1 ∈ R i) ∧ e.1 ∉ R (e.2 - 1)
  fo : ∀ b ∈ s.fo, Big R b
  cov : ∀ i, leO i s.q = true → ∀ r ∈ R i, (∃ b ∈ s.fo, (b.l, b.r) = r ∧ b.t ≤ i ∧ leO i b.b = true) ∨ ∃ t, (r, t) ∈ s.be ∧ t ≤ i
  now : ∀ q, s.q = some q → ∀ r ∈ R q, ∃ t, (r, t) ∈ s.be
section
variable {R : Int → List Iv}
theorem FInv.step {s : FS} {q : Int} {b : Iv × List Iv} (h : FInv R s) (hq : s.q = some q) (h0 : 0 ≤ q) (hf : q < b.1.1) (hl : leO b.1.1 b.1.2 = true) (hr : ∀ i, isAt b.1 i = true → R i = b.2) (hg : ∀ i, q < i → i < b.1.1 → R i = []) : FInv R (fstep s b) := by
  obtain ⟨⟨f, l⟩, rs⟩ := b
  obtain ⟨fo, be, q'⟩ := s
  dsimp only at hq hf hl hr hg
  subst hq
  have hfr : R f = rs := hr f (isAt_iff.mpr ⟨Int.le_refl _, hl⟩)
  have rows : ∀ i, f ≤ i → leO i l = true → R i = rs := fun i z1 z2 => hr i (isAt_iff.mpr ⟨z1, z2⟩)
  have dr : ∀ e, drp q f rs e = true ↔ (e.1 ∉ rs ∨ f ≠ q + 1) := fun e => by
    unfold drp
    rw [Bool.or_eq_true, Bool.not_eq_true', decide_eq_false_iff_not, decide_eq_true_iff]
  have ndr : ∀ e, (!drp q f rs e) = true ↔ (e.1 ∈ rs ∧ f = q + 1) := fun e => by
    rw [Bool.not_eq_true', ← Bool.not_eq_true, dr]
    constructor
    · intro z
      exact ⟨Decidable.byContradiction fun k => z (.inl k), Decidable.byContradiction fun k => z (.inr k)⟩
    · rintro ⟨z1, z2⟩ (z | z)
      · exact z z1
      · exact z z2
  have hbe : ∀ e ∈ be, 1 ≤ e.2 ∧ e.2 ≤ q ∧ (∀ i, e.2 ≤ i → i ≤ q → e.1 ∈ R i) ∧ e.1 ∉ R (e.2 - 1) := fun e m => by
    obtain ⟨h1, h2, h3, h4⟩ := h.be e m
    exact ⟨h1, leO_some.mp h2, fun i z1 z2 => h3 i z1 (leO_some.mpr z2), h4⟩
  have key : ∀ e ∈ be.filter (fun e => !drp q f rs e), e ∈ be ∧ e.1 ∈ rs ∧ f = q + 1 := fun e m =>
    ⟨(List.mem_filter.mp m).1, (ndr e).mp (List.mem_filter.mp m).2⟩
  have nd2 : ((be.filter fun e => !drp q f rs e).map (·.1)).Nodup := (h.nd).sublist (List.filter_sublist.map _)
  have notkept : ∀ r ∈ rs, r ∉ (be.filter fun e => !drp q f rs e).map (·.1) → r ∉ R (f - 1) := fun r mr hn hm => by
    by_cases z : f = q + 1
    · subst z
      rw [show q + 1 - 1 = q by omega] at hm
      obtain ⟨t, mt⟩ := h.now q rfl r hm
      exact hn (List.mem_map.mpr ⟨(r, t), List.mem_filter.mpr ⟨mt, (ndr (r, t)).mpr ⟨mr, rfl⟩⟩, rfl⟩)
    · rw [hg (f - 1) (by omega) (by omega)] at hm; cases hm
  refine ⟨addAll_nodup nd2, fun e m => ?_, fun b m => ?_, fun i hi r mr => ?_, fun q2 e2 r mr => ?_⟩
  · obtain ⟨r, t⟩ := e
    have m : (r, t) ∈ addAll (be.filter fun e => !drp q f rs e) f rs := m
    show 1 ≤ t ∧ leO t l = true ∧ (∀ i, t ≤ i → leO i l = true → r ∈ R i) ∧ r ∉ R (t - 1)
    rcases addAll_mem m with m | ⟨rfl, mr, hn⟩
    · obtain ⟨mb, mr, z⟩ := key _ m
      obtain ⟨h1, h2, h3, h4⟩ := hbe _ mb
      refine ⟨h1, leO_le hl (by show t ≤ f; have h2 : t ≤ q := h2; omega), fun i z1 z2 => ?_, h4⟩
      by_cases z3 : i ≤ q
      · exact h3 i z1 z3
      · rw [rows i (by omega) z2]; exact mr
    · exact ⟨by omega, hl, fun i z1 z2 => by rw [rows i z1 z2]; exact mr, notkept r mr hn⟩
  · have m : b ∈ fo ++ (be.filter (drp q f rs)).map (blkOf (some q)) := m
    rcases List.mem_append.mp m with m | m
    · exact h.fo b m
    · obtain ⟨e, me, rfl⟩ := List.mem_map.mp m
      obtain ⟨mb, md⟩ := List.mem_filter.mp me
      obtain ⟨h1, h2, h3, h4⟩ := hbe e mb
      refine ⟨h1, leO_some.mpr h2, fun i z1 z2 => h3 i z1 (leO_some.mp z2), h4, fun q2 e2 => ?_⟩
      have e2 : some q = some q2 := e2
      cases e2
      rcases (dr e).mp md with z | z
      · by_cases z2 : f = q + 1
        · rw [← z2, hfr]; exact z
        · rw [hg (q + 1) (by omega) (by omega)]; exact List.not_mem_nil
      · rw [hg (q + 1) (by omega) (by omega)]; exact List.not_mem_nil
  · have hi : leO i l = true := hi
    show (∃ b ∈ fo ++ (be.filter (drp q f rs)).map (blkOf (some q)), (b.l, b.r) = r ∧ b.t ≤ i ∧ leO i b.b = true) ∨ ∃ t, (r, t) ∈ addAll (be.filter fun e => !drp q f rs e) f rs ∧ t ≤ i
    by_cases z : i ≤ q
    · rcases h.cov i (leO_some.mpr z) r mr with ⟨b, mb, h1⟩ | ⟨t, mt, h1⟩
      · exact .inl ⟨b, List.mem_append_left _ mb, h1⟩
      · cases hd : drp q f rs (r, t) with
        | true => exact .inl ⟨_, List.mem_append_right _ (List.mem_map.mpr ⟨(r, t), List.mem_filter.mpr ⟨mt, hd⟩, rfl⟩), rfl, h1, leO_some.mpr z⟩
        | false => exact .inr ⟨t, addAll_old (List.mem_filter.mpr ⟨mt, by rw [hd]; rfl⟩), h1⟩
    · by_cases z2 : i < f
      · rw [hg i (by omega) z2] at mr; cases mr
      · rw [rows i (by omega) hi] at mr
        obtain ⟨t, mt⟩ := addAll_key (f := f) (be := be.filter fun e => !drp q f rs e) mr
        refine .inr ⟨t, mt, ?_⟩
        rcases addAll_mem mt with m | ⟨rfl, _, _⟩
        · have := (hbe _ (key _ m).1).2.1
          have : t ≤ q := this
          omega
        · omega
  · have e2 : l = some q2 := e2
    subst e2
    rw [rows q2 (leO_some.mp hl) (leO_some.mpr (Int.le_refl _))] at mr
    exact addAll_key mr
/-- the rows of like runs tell all rows behind q -/
def Told (R : Int → List Iv) (q : Int) : List (Iv × List Iv) → Prop
  | [] => ∀ i, q < i → R i = []
  | b :: bs => q < b.1.1 ∧ leO b.1.1 b.1.2 = true ∧ (∀ i, isAt b.1 i = true → R i = b.2) ∧ (∀ i, q < i → i < b.1.1 → R i = []) ∧
    match b.1.2 with
    | none => bs = []
    | some q2 => Told R q2 bs
theorem told_inv : ∀ {bs : List (Iv × List Iv)} {s : FS} {q : Int}, FInv R s → s.q = some q → 0 ≤ q → Told R q bs → FInv R (bs.foldl fstep s) ∧ ∀ q2, (bs.foldl fstep s).q = some q2 → ∀ i, q2 < i → R i = []
  | [], s, q, h, e, _, t => ⟨h, fun q2 e2 i hi => by rw [List.foldl_nil, e] at e2; cases e2; exact t i hi⟩
  | b :: bs, s, q, h, e, h0, t => by
    obtain ⟨t1, t2, t3, t4, t5⟩ := t
    have h2 := h.step e h0 t1 t2 t3 t4
    rw [List.foldl_cons]
    cases e2 : b.1.2 with
    | none =>
      rw [e2] at t5
      subst t5
      exact ⟨h2, fun q2 e3 => by rw [List.foldl_nil] at e3; have e3 : b.1.2 = some q2 := e3; rw [e2] at e3; cases e3⟩
    | some q2 =>
      rw [e2] at t2 t5
      exact told_inv h2 e2 (by have := leO_some.mp t2; omega) t5
theorem form_big {bs : List (Iv × List Iv)} (h0 : ∀ i, i ≤ 0 → R i = []) (t : Told R 0 bs) : (∀ b ∈ formU bs, Big R b) ∧ ∀ i, ∀ r ∈ R i, ∃ b ∈ formU bs, (b.l, b.r) = r ∧ b.t ≤ i ∧ leO i b.b = true := by
  have I0 : FInv R ⟨[], [], some 0⟩ := ⟨List.nodup_nil, (fun _ m => nomatch m), (fun _ m => nomatch m), (fun i hi r m => by rw [h0 i (leO_some.mp hi)] at m; cases m), (fun q e r m => by cases e; rw [h0 0 (Int.le_refl _)] at m; cases m)⟩
  obtain ⟨I, z⟩ := told_inv I0 rfl (Int.le_refl _) t
  unfold formU
  dsimp only
  generalize bs.foldl fstep ⟨[], [], some 0⟩ = s at I z
  refine ⟨fun b m => ?_, fun i r m => ?_⟩
  · rcases List.mem_append.mp m with m | m
    · exact I.fo b m
    · obtain ⟨e, me, rfl⟩ := List.mem_map.mp m
      obtain ⟨h1, h2, h3, h4⟩ := I.be e me
      refine ⟨h1, h2, h3, h4, fun q e2 => ?_⟩
      rw [z q e2 (q + 1) (by omega)]; exact List.not_mem_nil
  · have hi : leO i s.q = true := by
      cases e : s.q with
      | none => rfl
      | some q =>
        by_cases k : i ≤ q
        · exact leO_some.mpr k
        · rw [z q e i (by omega)] at m; cases m
    rcases I.cov i hi r m with ⟨b, mb, k⟩ | ⟨t, mt, k⟩
    · exact ⟨b, List.mem_append_left _ mb, k⟩
    · exact ⟨_, List.mem_append_right _ (List.mem_map.mpr ⟨_, mt, rfl⟩), rfl, k, hi⟩
theorem form_len : ∀ (bs : List (Iv × List Iv)) (s : FS), (bs.foldl fstep s).fo.length + (bs.foldl fstep s).be.length ≤ s.fo.length + s.be.length + (bs.map fun b => b.2.length).sum
  | [], s => Nat.le_refl _
  | b :: bs, s => by
    rw [List.foldl_cons, List.map_cons, List.sum_cons]
    have h1 := form_len bs (fstep s b)
    have h2 : (fstep s b).fo.length + (fstep s b).be.length ≤ s.fo.length + s.be.length + b.2.length := by
      have h3 := addAll_len (f := b.1.1) (rs := b.2) (be := s.be.filter fun e => !drp (s.q.getD 0) b.1.1 b.2 e)
      have h4 : (s.be.filter (drp (s.q.getD 0) b.1.1 b.2)).length + (s.be.filter fun e => !drp (s.q.getD 0) b.1.1 b.2 e).length = s.be.length := by
        induction s.be with
        | nil => rfl
        | cons x l ih =>
          rw [List.filter_cons, List.filter_cons]
          cases drp (s.q.getD 0) b.1.1 b.2 x <;> simp <;> omega
      show (s.fo ++ (s.be.filter (drp (s.q.getD 0) b.1.1 b.2)).map (blkOf s.q)).length + (addAll (s.be.filter fun e => !drp (s.q.getD 0) b.1.1 b.2 e) b.1.1 b.2).length ≤ _
      rw [List.length_append, List.length_map]
      omega
    omega
end
end PG
namespace PG
open DL
/-! ### from blocks to the rows of like runs, to the form -/
def colsAt (bs : List Blk) (i : Int) : List Iv := (bs.filter fun b => isAt (b.t, b.b) i).map fun b => (b.l, b.r)
abbrev kepK (kp : Bool → Bool → Bool) (one other : List Iv) (n : Int) : Bool := kp (one.any (isAt · n)) (other.any (isAt · n))
def runsBy (kp : Bool → Bool → Bool) (one other : List Iv) : List Iv := goR (kepK kp one other) [] (spans (usort (cutsOf (one ++ other))))
def rowR (kp : Bool → Bool → Bool) (one other : List Blk) (i : Int) : List Iv := runsBy kp (colsAt one i) (colsAt other i)
def rowIv (b : Blk) : Iv := (b.t, b.b)
def bandsOn (R : Int → List Iv) (ps : List Iv) : List (Iv × List Iv) := ps.filterMap fun p => if R p.1 = [] then none else some (p, R p.1)
def bandsBy (kp : Bool → Bool → Bool) (one other : List Blk) : List (Iv × List Iv) := bandsOn (rowR kp one other) (spans (usort (cutsOf ((one ++ other).map rowIv))))
section
variable {es : List Iv} {p s : Iv} {n : Int}
theorem cuts_first (h : p ∈ es) : p.1 ∈ cutsOf es := List.mem_append_left _ (List.mem_map.mpr ⟨p, h, rfl⟩)
theorem cuts_last {q : Int} (h : p ∈ es) (e : p.2 = some q) : q + 1 ∈ cutsOf es := List.mem_append_right _ (List.mem_filterMap.mpr ⟨p, h, by rw [e]; rfl⟩)
theorem cuts_of {c : Int} (h : c ∈ cutsOf es) : ∃ p ∈ es, c = p.1 ∨ ∃ q, p.2 = some q ∧ c = q + 1 := by
  rcases List.mem_append.mp h with h | h
  · obtain ⟨p, m, rfl⟩ := List.mem_map.mp h
    exact ⟨p, m, .inl rfl⟩
  · obtain ⟨p, m, e⟩ := List.mem_filterMap.mp h
    obtain ⟨q, e1, e2⟩ := Option.map_eq_some_iff.mp e
    exact ⟨p, m, .inr ⟨q, e1, e2.symm⟩⟩
/-- within a stretch between cuts an end is met everywhere, or nowhere -/
theorem at_const (hs : s ∈ spans (usort (cutsOf es))) (hn : isAt s n = true) (h : p ∈ es) : isAt p n = isAt p s.1 := by
  have c1 := spans_cut usort_lt hs hn (usort_mem.mpr (cuts_first h))
  have key : isAt p n = true ↔ isAt p s.1 = true := by
    rw [isAt_iff, isAt_iff, c1]
    cases e : p.2 with
    | none => exact Iff.rfl
    | some q =>
      have c2 := spans_cut usort_lt hs hn (usort_mem.mpr (cuts_last h e))
      rw [leO_some, leO_some]
      constructor <;> rintro ⟨h1, h2⟩ <;> exact ⟨h1, by omega⟩
  cases h1 : isAt p s.1 with
  | true => exact key.mpr h1
  | false => cases h2 : isAt p n with
    | false => rfl
    | true => rw [key.mp h2] at h1; cases h1
theorem any_congr {α : Type} {f g : α → Bool} {l : List α} (h : ∀ x ∈ l, f x = g x) : l.any f = l.any g := by
  induction l with
  | nil => rfl
  | cons x l ih => rw [List.any_cons, List.any_cons, h x List.mem_cons_self, ih fun y m => h y (List.mem_cons_of_mem _ m)]
theorem low_cut {c : Int} {r : List Int} (e : usort (cutsOf es) = c :: r) (hp : ∀ p ∈ es, leO p.1 p.2 = true) (h : p ∈ es) : c ≤ p.1 := by
  have m : p.1 ∈ c :: r := e ▸ usort_mem.mpr (cuts_first h)
  have s := usort_lt (l := cutsOf es)
  rw [e] at s
  rcases List.mem_cons.mp m with m | m
  · omega
  · exact Int.le_of_lt ((List.pairwise_cons.mp s).1 _ m)
end
section
variable {kp : Bool → Bool → Bool} {one other : List Iv} {bs cs : List Blk}
theorem runs_canon (h0 : kp false false = false) (h1 : ∀ p ∈ one ++ other, leO p.1 p.2 = true) : Canon (kepK kp one other) (runsBy kp one other) := by
  unfold runsBy
  cases e : usort (cutsOf (one ++ other)) with
  | nil =>
    have em : one ++ other = [] := by
      cases e2 : one ++ other with
      | nil => rfl
      | cons p l =>
        have := usort_mem.mpr (cuts_first (es := one ++ other) (p := p) (by rw [e2]; exact List.mem_cons_self))
        rw [e] at this; cases this
    obtain ⟨rfl, rfl⟩ := List.append_eq_nil_iff.mp em
    exact ⟨(fun p m => nomatch m), (fun n k => by rw [show kepK kp [] [] n = false from h0] at k; cases k), (fun p m => nomatch m), List.Pairwise.nil⟩
  | cons c r =>
    have st := usort_lt (l := cutsOf (one ++ other))
    rw [e] at st
    refine RInv.canon (goR_inv (c := c) (spans_cont st) (fun p m n hn => ?_) ⟨(fun p m => nomatch m), fun n hn k => ?_, (fun p m => nomatch m), List.Pairwise.nil⟩)
    · rw [← e] at m
      unfold kepK
      rw [any_congr fun x mx => at_const m hn (List.mem_append_left _ mx), any_congr fun x mx => at_const m hn (List.mem_append_right _ mx)]
    · exfalso
      have hn := leO_some.mp hn
      have z : ∀ p ∈ one ++ other, isAt p n = false := fun p m => by
        have := low_cut e h1 m
        cases z : isAt p n with
        | false => rfl
        | true => have := (isAt_iff.mp z).1; omega
      have z1 : one.any (isAt · n) = false := List.any_eq_false.mpr fun p m => by rw [z p (List.mem_append_left _ m)]; exact Bool.false_ne_true
      have z2 : other.any (isAt · n) = false := List.any_eq_false.mpr fun p m => by rw [z p (List.mem_append_right _ m)]; exact Bool.false_ne_true
      unfold kepK at k
      rw [z1, z2, h0] at k; cases k
theorem told_spans {R : Int → List Iv} : ∀ {ps : List Iv} {c q : Int}, Cont c ps → (∀ p ∈ ps, ∀ i, isAt p i = true → R i = R p.1) → q < c → (∀ i, q < i → i < c → R i = []) → Told R q (bandsOn R ps)
  | [], _, _, h, _, _, _ => h.elim
  | (a, none) :: ps, c, q, h, hk, hq, hg => by
    obtain ⟨rfl, rfl⟩ := h
    have all : ∀ i, a ≤ i → R i = R a := fun i z => hk _ List.mem_cons_self i (isAt_iff.mpr ⟨z, rfl⟩)
    unfold bandsOn
    rw [List.filterMap_cons]
    dsimp only
    by_cases z : R a = []
    · rw [if_pos z]
      intro i hi
      by_cases k : i < a
      · exact hg i hi k
      · rw [all i (by omega)]; exact z
    · rw [if_neg z]
      exact ⟨hq, rfl, fun i hi => all i (isAt_iff.mp hi).1, hg, rfl⟩
  | (a, some e) :: ps, c, q, h, hk, hq, hg => by
    obtain ⟨rfl, h2, h3⟩ := h
    have all : ∀ i, a ≤ i → i ≤ e → R i = R a := fun i z1 z2 => hk _ List.mem_cons_self i (isAt_iff.mpr ⟨z1, leO_some.mpr z2⟩)
    have hk2 : ∀ p ∈ ps, ∀ i, isAt p i = true → R i = R p.1 := fun p m => hk p (List.mem_cons_of_mem _ m)
    unfold bandsOn
    rw [List.filterMap_cons]
    dsimp only
    by_cases z : R a = []
    · rw [if_pos z]
      refine told_spans h3 hk2 (by omega) fun i z1 z2 => ?_
      by_cases k : i < a
      · exact hg i z1 k
      · rw [all i (by omega) (by omega)]; exact z
    · rw [if_neg z]
      exact ⟨hq, leO_some.mpr h2, fun i hi => all i (isAt_iff.mp hi).1 (leO_some.mp (isAt_iff.mp hi).2), hg, told_spans h3 hk2 (by omega) fun i z1 z2 => by omega⟩
def AllOk (l : List Blk) : Prop := ∀ b ∈ l, b.Ok
theorem AllOk.append (h : AllOk bs) (h' : AllOk cs) : AllOk (bs ++ cs) := fun b m => (List.mem_append.mp m).elim (h b) (h' b)
theorem cols_ok (h : AllOk bs) {i : Int} : ∀ p ∈ colsAt bs i, 1 ≤ p.1 ∧ leO p.1 p.2 = true := fun p m => by
  obtain ⟨b, mb, rfl⟩ := List.mem_map.mp m
  have := h b (List.mem_filter.mp mb).1
  exact ⟨this.ol, this.or_⟩
theorem cols_any {i j : Int} : (colsAt bs i).any (isAt · j) = bs.any (hasB · i j) := by
  unfold colsAt
  rw [List.any_map, List.any_filter]
  refine any_congr fun b _ => ?_
  show (isAt (b.t, b.b) i && isAt (b.l, b.r) j) = hasB b i j
  unfold isAt hasB
  dsimp only
  cases decide (b.t ≤ i) <;> cases leO i b.b <;> cases decide (b.l ≤ j) <;> cases leO j b.r <;> rfl
theorem rowR_canon (h0 : kp false false = false) (h1 : AllOk bs) (h2 : AllOk cs) (i : Int) : Canon (fun j => kp (bs.any (hasB · i j)) (cs.any (hasB · i j))) (rowR kp bs cs i) := by
  have h := runs_canon (kp := kp) (one := colsAt bs i) (other := colsAt cs i) h0 fun p m => by
    rcases List.mem_append.mp m with m | m
    · exact (cols_ok h1 p m).2
    · exact (cols_ok h2 p m).2
  have e : kepK kp (colsAt bs i) (colsAt cs i) = fun j => kp (bs.any (hasB · i j)) (cs.any (hasB · i j)) := by
    funext j
    unfold kepK
    rw [cols_any, cols_any]
  rw [e] at h
  exact h
theorem rowR_ok (h0 : kp false false = false) (h1 : AllOk bs) (h2 : AllOk cs) {i : Int} {r : Iv} (m : r ∈ rowR kp bs cs i) : 1 ≤ r.1 ∧ leO r.1 r.2 = true := by
  have h := rowR_canon h0 h1 h2 i
  obtain ⟨g1, _, g3⟩ := h.in_ r m
  refine ⟨?_, g1⟩
  have k := g3 r.1 (isAt_iff.mpr ⟨Int.le_refl _, g1⟩)

  cases z1 : bs.any (hasB · i r.1) with
  | true =>
    obtain ⟨b, mb, e⟩ := List.any_eq_true.mp z1
    unfold hasB at e
    have := of_decide_eq_true (Bool.and_eq_true_iff.mp (Bool.and_eq_true_iff.mp e).2).1
    have := (h1 b mb).ol
    omega
  | false => cases z2 : cs.any (hasB · i r.1) with
    | true =>
      obtain ⟨b, mb, e⟩ := List.any_eq_true.mp z2
      unfold hasB at e
      have := of_decide_eq_true (Bool.and_eq_true_iff.mp (Bool.and_eq_true_iff.mp e).2).1
      have := (h2 b mb).ol
      omega
    | false => rw [z1, z2, h0] at k; cases k
theorem cols_const {s : Iv} {i : Int} (hs : s ∈ spans (usort (cutsOf ((bs ++ cs).map rowIv)))) (hi : isAt s i = true) : rowR kp bs cs i = rowR kp bs cs s.1 := by
  have e : ∀ b ∈ bs ++ cs, isAt (b.t, b.b) i = isAt (b.t, b.b) s.1 := fun b m => at_const hs hi (List.mem_map.mpr ⟨b, m, rfl⟩)
  unfold rowR colsAt
  rw [List.filter_congr fun b m => e b (List.mem_append_left _ m), List.filter_congr fun b m => e b (List.mem_append_right _ m)]
theorem rowR_low (h1 : AllOk bs) (h2 : AllOk cs) {i : Int} (hi : ∀ b ∈ bs ++ cs, i < b.t) : rowR kp bs cs i = [] := by
  have z : ∀ l : List Blk, (∀ b ∈ l, i < b.t) → colsAt l i = [] := fun l h => by
    unfold colsAt
    rw [List.filter_eq_nil_iff.mpr fun b m => by
      unfold isAt
      rw [decide_eq_false (by have := h b m; omega)]
      exact Bool.false_ne_true] <;> rfl
  unfold rowR
  rw [z bs fun b m => hi b (List.mem_append_left _ m), z cs fun b m => hi b (List.mem_append_right _ m)]
  rfl
theorem bands_told (h1 : AllOk bs) (h2 : AllOk cs) : (∀ i, i ≤ 0 → rowR kp bs cs i = []) ∧ Told (rowR kp bs cs) 0 (bandsBy kp bs cs) := by
  have ok := h1.append h2
  refine ⟨fun i hi => rowR_low h1 h2 fun b m => by have := (ok b m).ot; omega, ?_⟩
  unfold bandsBy
  cases e : usort (cutsOf ((bs ++ cs).map rowIv)) with
  | nil =>
    have em : bs ++ cs = [] := by
      cases e2 : bs ++ cs with
      | nil => rfl
      | cons p l =>
        have := usort_mem.mpr (cuts_first (es := (bs ++ cs).map rowIv) (p := rowIv p) (by rw [e2]; exact List.mem_cons_self))
        rw [e] at this; cases this
    intro i _
    exact rowR_low h1 h2 fun b m => by rw [em] at m; cases m
  | cons c r =>
    have st := usort_lt (l := cutsOf ((bs ++ cs).map rowIv))
    rw [e] at st
    have lo : ∀ b ∈ bs ++ cs, c ≤ b.t := fun b m => low_cut e (fun p mp => by
      obtain ⟨x, mx, rfl⟩ := List.mem_map.mp mp
      exact (ok x mx).ob) (List.mem_map.mpr ⟨b, m, rfl⟩)
    have c1 : 1 ≤ c := by
      obtain ⟨p, mp, z⟩ := cuts_of (usort_mem.mp (e.symm ▸ List.mem_cons_self : c ∈ usort (cutsOf ((bs ++ cs).map rowIv))))
      obtain ⟨x, mx, rfl⟩ := List.mem_map.mp mp
      have ox := ok x mx
      rcases z with z | ⟨q, e1, z⟩
      · rw [z]; exact ox.ot
      · have h3 := ox.ob
        have e1 : x.b = some q := e1
        rw [e1] at h3
        have := leO_some.mp h3
        have := ox.ot
        omega
    refine told_spans (spans_cont st) (fun p m i hi => cols_const (by rw [e]; exact m) hi) (by omega) fun i _ z => rowR_low h1 h2 fun b m => by have := lo b m; omega
/-- the form has just the cells that are kept -/
theorem form_has (h0 : kp false false = false) (h1 : AllOk bs) (h2 : AllOk cs) (i j : Int) : (formU (bandsBy kp bs cs)).any (hasB · i j) = kp (bs.any (hasB · i j)) (cs.any (hasB · i j)) := by
  obtain ⟨z, t⟩ := bands_told (kp := kp) h1 h2
  obtain ⟨g1, g2⟩ := form_big z t
  rw [← (rowR_canon h0 h1 h2 i).any j]
  have key : ((formU (bandsBy kp bs cs)).any (hasB · i j) = true) ↔ ((rowR kp bs cs i).any (isAt · j) = true) := by
    rw [List.any_eq_true, List.any_eq_true]
    constructor
    · rintro ⟨b, m, e⟩
      unfold hasB at e
      obtain ⟨e1, e2⟩ := Bool.and_eq_true_iff.mp e
      obtain ⟨e2, e3⟩ := Bool.and_eq_true_iff.mp e2
      obtain ⟨e3, e4⟩ := Bool.and_eq_true_iff.mp e3
      exact ⟨_, (g1 b m).all_ i (of_decide_eq_true e1) e3, isAt_iff.mpr ⟨of_decide_eq_true e2, e4⟩⟩
    · rintro ⟨r, m, e⟩
      obtain ⟨b, mb, rfl, e2, e3⟩ := g2 i r m
      obtain ⟨e4, e5⟩ := isAt_iff.mp e
      refine ⟨b, mb, ?_⟩
      unfold hasB
      rw [decide_eq_true e2, decide_eq_true (show b.l ≤ j from e4), e3, show leO j b.r = true from e5]; rfl
  cases h : (formU (bandsBy kp bs cs)).any (hasB · i j) with
  | true => rw [key.mp h]
  | false => cases h3 : (rowR kp bs cs i).any (isAt · j) with
    | false => rfl
    | true => rw [key.mpr h3] at h; cases h
theorem form_ok (h0 : kp false false = false) (h1 : AllOk bs) (h2 : AllOk cs) : AllOk (formU (bandsBy kp bs cs)) := fun b m => by
  obtain ⟨z, t⟩ := bands_told (kp := kp) h1 h2
  have g := (form_big z t).1 b m
  obtain ⟨o1, o2⟩ := rowR_ok h0 h1 h2 (g.all_ b.t (Int.le_refl _) g.ne)
  exact ⟨g.t1, o1, g.ne, o2⟩
end
end PG
namespace PG
open PySem PySem.Spec PyProof.Rows L2 DL
def ivD (p : Iv) : D := .tup [.int p.1, opt p.2]
def ivsD (l : List Iv) : D := .lst (l.map ivD)
section
variable {μ : List M} {p : Iv} {es : List Iv} {i j n : Int} {b : Blk} {bs : List Blk} {o : Option Int}
theorem optN : opt none = .non := rfl
theorem optS : opt (some i) = .int i := rfl
theorem plain_iv : plain (ivD p) = true := by
  show (true && (plain (opt p.2) && true)) = true
  rw [plain_opt]; rfl
theorem dep_iv : dep (ivD p) = 1 := by
  show max 0 (max (dep (opt p.2)) 0) + 1 = 1
  rw [dep_opt]; rfl
theorem clean_iv {k : Nat} : clean k (ivD p) = true := by
  show (true && (clean _ (opt p.2) && true)) = true
  rw [clean_opt]; rfl
theorem clean_ivs : ∀ {l : List Iv} {k : Nat}, cleans k (l.map ivD) = true
  | [], _ => rfl
  | p :: l, k => by
    show ((true && (clean k (opt p.2) && true)) && cleans k (l.map ivD)) = true
    rw [clean_opt, clean_ivs]; rfl
theorem plain_ivs : ∀ {l : List Iv}, plains (l.map ivD) = true
  | [] => rfl
  | p :: l => by
    show (plain (ivD p) && plains (l.map ivD)) = true
    rw [plain_iv, plain_ivs]; rfl
theorem dep_ivs : ∀ {l : List Iv}, deps (l.map ivD) ≤ 1
  | [] => Nat.zero_le _
  | p :: l => by
    show max (dep (ivD p)) (deps (l.map ivD)) ≤ 1
    rw [dep_iv]
    exact Nat.max_le.mpr ⟨Nat.le_refl _, dep_ivs⟩
theorem eqB_iv {q : Iv} : eqB (ivD p) (ivD q) = decide (p = q) := by
  show ((p.1 == q.1) && (eqB (opt p.2) (opt q.2) && true)) = _
  rw [eqB_opt]
  obtain ⟨a, b⟩ := p
  obtain ⟨c, d⟩ := q
  simp only [Prod.mk.injEq]
  by_cases h1 : a = c <;> by_cases h2 : b = d <;> simp [h1, h2]
end
local macro_rules | `(tactic| trivial) => `(tactic| simp (config := { dsimp := false }) only [*, eq_self, DL.w_ok, DL.w_ex, DL.w_bind, DL.w_bindS, DL.o_some, DL.w_dC, DL.w_var, DL.w_op, DL.a_nil, DL.a_cons, DL.w_tup, DL.w_lst, DL.w_blt, DL.w_call, DL.w_callN, DL.w_or, DL.w_and, DL.w_not, DL.w_neg, DL.w_if, DL.w_chain, DL.t_tru, DL.t_tst, DL.t_and, DL.t_or, DL.t_not, DL.p_no, DL.p_some, DL.w_slc, DL.w_m1, DL.w_m0, DL.w_fld, DL.s_nil, DL.s_brk, DL.s_cnt, DL.s_retN, DL.s_raise, DL.s_seq, DL.s_ret, DL.s_exp, DL.s_if, DL.s_set, DL.s_new, DL.s_cel, DL.s_retC, DL.s_par, DL.s_asg, DL.e_add, DL.e_sub, DL.e_mulR, DL.e_mulL, DL.e_modS, DL.e_divS, DL.e_pow, DL.e_lt, DL.e_le, DL.e_gt, DL.e_ge, DL.e_is, DL.e_isN, DL.e_eqI, DL.e_neI, DL.e_eqS, DL.e_neS, DL.h_bl, DL.h_int, DL.h_non, DL.b_bl, DL.i_int, DL.s_str, DL.l_lst, DL.q_lst, DL.q_tup, DL.c_lst, DL.c_seq, DL.c_lis, DL.x_cel, DL.x_lst, DL.x_tup, DL.at_nn, DL.ix_in, DL.p_cel, DL.e_mulIf, DL.e_mulM, DL.t_len, DL.t_intB, DL.start, DL.s_setIx, DL.s_for, DL.i_rng, DL.i_rng2, DL.w_lc, DL.r_one, DL.s_app, DL.g_cel, DL.w_dct0, DL.w_meth, DL.isC_obj, DL.w_make, DL.w_pick, DL.pick_cons, DL.pick_nil, DL.w_own, DL.w_ne, DL.w_obS, DL.cls_obj, DL.fld_obj, DL.w_fmt, DL.w_fs, DL.w_fsNil, DL.w_fsCons, DL.w_isT, DL.w_revA, DL.s_try, DL.s_raiseI, DL.s_tryP, DL.s_endX, DL.w_isXT, DL.i_any, DL.ia_tup, DL.ia_str, DL.ia_lst, DL.ia_scr, DL.ia_cel, DL.gl_glo, DL.w_callA, DL.s_tryN, DL.s_never, DL.s_fld, DL.w_listN, DL.g_seq, DL.g_cons, DL.g_nil, DL.g_nm, DL.t_yes, DL.wipe_cons, DL.wipe_nil, DL.nn_non, DL.nn_int, DL.nn_str, DL.nn_bl, DL.nn_tup, DL.nn_lst, DL.w_fmR, DL.w_owns, DL.w_nes, DL.w_obSs, DL.w_meths, DL.w_xf, DL.i_zip, DL.w_revB, DL.s_new2, DL.w_callN2, DL.s_dct, DL.s_setd, DL.s_popk, DL.s_ext, DL.w_itT, DL.i_itT, DL.i_enum, DL.w_lock, DL.w_sortSet, DL.w_sortK, List.map_cons, List.map_nil, List.length_cons, List.length_nil, List.cons_append, List.nil_append, List.append_nil, List.drop_zero, List.drop_nil, List.drop_succ_cons, List.getElem?_cons_zero, List.getElem?_cons_succ, List.set_cons_zero, List.set_cons_succ, List.replicate_succ, List.replicate_zero, Option.join_some, Option.map_some, if_true, if_false, Bool.not_true, Bool.not_false, true_and, and_true, Nat.reduceAdd, Nat.reduceSub, Nat.reduceLeDiff, decide_true, decide_false, Bool.false_eq_true, Option.bind_some, Int.reduceToNat, List.getElem?_set_self, Int.reduceLT, Int.reduceLE, Int.reduceNeg, Int.reduceSub, Int.reduceAdd, Int.reduceMul, Int.reducePow, Nat.reduceLT, Int.reduceEq, ite_self, optN, optS, PG.dfl_cuts_of, PG.dfl_is_at, PG.dfl_with_run])
section
variable {μ : List M} {p : Iv} {es : List Iv} {i j n : Int} {b : Blk} {bs : List Blk} {o : Option Int}
theorem x_is_at (hc : Cln μ) : G_is_at [.int p.1, opt p.2, .int n] μ = .ok (.bl (isAt p n)) μ := by
  apply eq_ok
  unfold G_is_at
  refine wo_fn rfl ?_
  unfold D_is_at
  unfold isAt leO
  by_cases h : p.1 ≤ n
  · cases e : p.2 with
    | none =>
      trivial
      exact fr_same hc rfl ⟨rfl, rfl⟩
    | some q =>
      trivial
      exact fr_same hc rfl ⟨rfl, rfl⟩
  · trivial
    exact fr_same hc rfl ⟨rfl, rfl⟩
theorem x_cuts (hc : Cln μ) (hl : es.length ≤ 50000) : G_cuts_of [ivsD es] μ = .ok (.lst ((cutsOf es).map .int)) μ := by
  apply eq_ok
  unfold G_cuts_of
  refine wo_fn rfl ?_
  unfold D_cuts_of ivsD
  have c1 := lc_map (m := μ) (g := fun _ => True) (tg := gSeq 2 (gsCons (gNm 1) (gsCons (gNm 2) gsNil))) (el := dVar 1) (env0 := [some (.lst (es.map ivD)), none, none]) (fun x => match x with | .tup [a, _] => a | _ => .non) ⟨⟩ (es.map ivD) (fun x hx => by
    obtain ⟨p, m, rfl⟩ := List.mem_map.mp hx
    exact ⟨_, rfl, rfl⟩) (by rw [List.length_map]; omega)
  have c2 := lc_pure (m := μ) (g := fun _ => True) (tg := gSeq 2 (gsCons (gNm 1) (gsCons (gNm 2) gsNil))) (tt := dTst (dOp opIsN (dVar 2) (dC .non))) (el := dOp opAdd (dVar 2) (dC (.int 1))) (env0 := [some (.lst (es.map ivD)), none, none]) (fun x => match x with | .tup [_, a] => !isNn a | _ => false) (fun x => match x with | .tup [_, .int a] => .int (a + 1) | _ => .non) ⟨⟩ (es.map ivD) [] (fun x hx => by
    obtain ⟨p, m, rfl⟩ := List.mem_map.mp hx
    refine ⟨_, rfl, ?_, fun h => ?_⟩
    · obtain ⟨a, o⟩ := p
      cases o <;> rfl
    · obtain ⟨a, o⟩ := p
      cases o with
      | none => cases h
      | some q => rfl) (by show 0 + _ ≤ _; rw [List.length_map]; omega)
  have e1 : (es.map ivD).map (fun x => match x with | .tup [a, _] => a | _ => .non) = (es.map (·.1)).map D.int := by
    rw [List.map_map, List.map_map]; rfl
  have e2 : ∀ l : List Iv, ((l.map ivD).filter (fun x => match x with | .tup [_, a] => !isNn a | _ => false)).map (fun x => match x with | .tup [_, .int a] => .int (a + 1) | _ => .non) = (l.filterMap fun p => p.2.map (· + 1)).map D.int := fun l => by
    induction l with
    | nil => rfl
    | cons p l ih =>
      obtain ⟨a, o⟩ := p
      cases o with
      | none => exact ih
      | some q => exact congrArg (D.int (q + 1) :: ·) ih
  rw [e1] at c1
  rw [e2, List.nil_append] at c2
  have c3 : opAdd μ (.lst ((es.map (·.1)).map D.int)) (.lst ((es.filterMap fun p => p.2.map (· + 1)).map D.int)) = some (.lst ((cutsOf es).map .int)) := by
    rw [e_addL l_lst l_lst, if_pos (by
      have := List.length_filterMap_le (fun p : Iv => p.2.map (· + 1)) es
      rw [List.length_map, List.length_map, List.length_map]; omega)]
    unfold cutsOf
    rw [List.map_append]
  clear e1 e2 hl
  trivial
  refine fr_same hc ?_ ⟨rfl, rfl⟩
  show cleans 0 _ = true
  generalize cutsOf es = l
  induction l with
  | nil => rfl
  | cons _ _ ih => exact ih
theorem x_with (hc : Cln μ) (hl : es.length ≤ 50000) : G_with_run [ivsD es, .int n, opt o] μ = .ok (ivsD (withRun es n o)) μ := by
  apply eq_ok
  unfold G_with_run
  refine wo_fn rfl ?_
  unfold D_with_run ivsD withRun
  have cl : ∀ l : List Iv, FR μ.length μ (.lst (l.map ivD)) (fun x m' => x = .lst (l.map ivD) ∧ m' = μ) := fun l => fr_same hc clean_ivs ⟨rfl, rfl⟩
  have ad : ∀ (l : List Iv) (d : D), l.length ≤ 50000 → opAdd μ (.lst (l.map ivD)) (.lst [d]) = some (.lst (l.map ivD ++ [d])) := fun l d h => by
    rw [e_addL l_lst l_lst, if_pos (by rw [List.length_map]; show _ + 1 ≤ _; omega)]
  have a1 := ad es (ivD (n, o)) hl
  have c1 := cl (es ++ [(n, o)])
  rw [List.map_append] at c1
  rcases List.eq_nil_or_concat es with rfl | ⟨es', p, e0⟩
  · have n1 : opNe μ (.lst []) (.lst []) = some (.bl false) := rfl
    clear cl ad hl
    simp only [List.map_nil, List.getLast?_nil, List.nil_append, List.map_cons] at a1 c1 ⊢
    trivial
    exact c1
  · rw [List.concat_eq_append] at e0
    subst e0
    have n1 : opNe μ (.lst ((es' ++ [p]).map ivD)) (.lst []) = some (.bl true) := by
      show (if eqOk (.lst ((es' ++ [p]).map ivD)) (.lst []) = true then some (D.bl (!eqB (.lst ((es' ++ [p]).map ivD)) (.lst []))) else none) = _
      rw [if_pos]
      · congr 2
        cases es' <;> rfl
      · show (plains _ && (true && (decide (deps _ + 1 ≤ 64) && true))) = true
        rw [plain_ivs, decide_eq_true (by have := dep_ivs (l := es' ++ [p]); omega)]; rfl
    have n2 : opIx μ (.lst ((es' ++ [p]).map ivD)) (.int (-1)) = some (ivD p) := by
      show atI ((es' ++ [p]).map ivD) (-1) = _
      have z : ixN (es'.length + 1) (-1) = some es'.length := by
        unfold ixN
        rw [if_neg (by decide), if_pos (by omega)]
        congr 1
        omega
      unfold atI
      rw [List.length_map, List.length_append, show es'.length + [p].length = es'.length + 1 from rfl, z]
      show ((es' ++ [p]).map ivD)[es'.length]? = _
      rw [List.getElem?_map, List.getElem?_concat_length]; rfl
    have n0 : opNeg μ (.int 1) = some (.int (-1)) := rfl
    have n3 : opIx μ (ivD p) (.int 1) = some (opt p.2) := rfl
    have n4 : opIx μ (ivD p) (.int 0) = some (.int p.1) := rfl
    have n5 : slc μ none (some (-1)) (.lst ((es' ++ [p]).map ivD)) = some (.lst (es'.map ivD)) := by
      show some (D.lst (cutL ((es' ++ [p]).map ivD) none (some (-1)))) = _
      congr 2
      unfold cutL
      have z : HT.sIx ((es' ++ [p]).map ivD).length ((es' ++ [p]).map ivD).length (some (-1)) = es'.length := by
        show (if (-1 : Int) < 0 then (-1 + (((es' ++ [p]).map ivD).length : Int)).toNat else min (-1 : Int).toNat (((es' ++ [p]).map ivD).length)) = _
        rw [if_pos (by decide), List.length_map, List.length_append]
        show (-1 + ((es'.length + 1 : Nat) : Int)).toNat = _
        omega
      rw [z]
      show ((List.map ivD (es' ++ [p])).drop 0).take (es'.length - 0) = _
      rw [List.drop_zero, Nat.sub_zero, List.map_append, List.take_left' (by rw [List.length_map])]
    have n6 : opEq μ (opt p.2) (.int (n - 1)) = some (.bl (decide (p.2 = some (n - 1)))) := by
      show opEq μ (opt p.2) (opt (some (n - 1))) = _
      have z : ∀ o : Option Int, now μ (opt o) = opt o := fun o => by cases o <;> rfl
      unfold opEq
      rw [z, z, eqB_opt, if_pos (by unfold eqOk; rw [plain_opt, plain_opt, dep_opt, dep_opt]; rfl)]
    have a2 := ad es' (ivD (p.1, o)) (by rw [List.length_append] at hl; omega)
    have c2 := cl (es' ++ [(p.1, o)])
    rw [List.map_append] at c2
    have e5 : (es' ++ [p]).getLast? = some p := List.getLast?_concat
    have e6 : (es' ++ [p]).dropLast = es' := List.dropLast_concat
    rw [e5]
    dsimp only
    rw [e6]
    have iv : ∀ q : Iv, ivD q = .tup [.int q.1, opt q.2] := fun _ => rfl
    by_cases h : p.2 = some (n - 1)
    · have eM : (es' ++ [(p.1, o)]).map ivD = es'.map ivD ++ [.tup [.int p.1, opt o]] := by rw [List.map_append]; rfl
      rw [if_pos h, eM]
      rw [decide_eq_true h] at n6
      clear cl ad hl h a1 c1 e5 e6
      rw [List.map_cons, List.map_nil] at c2
      rw [iv (p.1, o)] at a2 c2
      clear eM
      generalize List.map ivD (es' ++ [p]) = L at *
      generalize ivD p = P at *
      generalize opt p.2 = O at *
      generalize opt o = O2 at *
      clear iv
      trivial
    · have eM : (es' ++ [p] ++ [(n, o)]).map ivD = (es' ++ [p]).map ivD ++ [.tup [.int n, opt o]] := by rw [List.map_append]; rfl
      rw [if_neg h, eM]
      rw [decide_eq_false h] at n6
      clear cl ad hl h a2 c2 e5 e6
      rw [List.map_cons, List.map_nil] at c1
      rw [iv (n, o)] at a1 c1
      clear eM
      generalize List.map ivD (es' ++ [p]) = L at *
      generalize ivD p = P at *
      generalize opt p.2 = O at *
      generalize opt o = O2 at *
      clear iv
      trivial
end
end PG
namespace PG
open PySem PySem.Spec PyProof.Rows L2 DL
local macro_rules | `(tactic| trivial) => `(tactic| simp (config := { dsimp := false }) only [*, eq_self, DL.w_ok, DL.w_ex, DL.w_bind, DL.w_bindS, DL.o_some, DL.w_dC, DL.w_var, DL.w_op, DL.a_nil, DL.a_cons, DL.w_tup, DL.w_lst, DL.w_blt, DL.w_call, DL.w_callN, DL.w_or, DL.w_and, DL.w_not, DL.w_neg, DL.w_if, DL.w_chain, DL.t_tru, DL.t_tst, DL.t_and, DL.t_or, DL.t_not, DL.p_no, DL.p_some, DL.w_slc, DL.w_m1, DL.w_m0, DL.w_fld, DL.s_nil, DL.s_brk, DL.s_cnt, DL.s_retN, DL.s_raise, DL.s_seq, DL.s_ret, DL.s_exp, DL.s_if, DL.s_set, DL.s_new, DL.s_cel, DL.s_retC, DL.s_par, DL.s_asg, DL.e_add, DL.e_sub, DL.e_mulR, DL.e_mulL, DL.e_modS, DL.e_divS, DL.e_pow, DL.e_lt, DL.e_le, DL.e_gt, DL.e_ge, DL.e_is, DL.e_isN, DL.e_eqI, DL.e_neI, DL.e_eqS, DL.e_neS, DL.h_bl, DL.h_int, DL.h_non, DL.b_bl, DL.i_int, DL.s_str, DL.l_lst, DL.q_lst, DL.q_tup, DL.c_lst, DL.c_seq, DL.c_lis, DL.x_cel, DL.x_lst, DL.x_tup, DL.at_nn, DL.ix_in, DL.p_cel, DL.e_mulIf, DL.e_mulM, DL.t_len, DL.t_intB, DL.start, DL.s_setIx, DL.s_for, DL.i_rng, DL.i_rng2, DL.w_lc, DL.r_one, DL.s_app, DL.g_cel, DL.w_dct0, DL.w_meth, DL.isC_obj, DL.w_make, DL.w_pick, DL.pick_cons, DL.pick_nil, DL.w_own, DL.w_ne, DL.w_obS, DL.cls_obj, DL.fld_obj, DL.w_fmt, DL.w_fs, DL.w_fsNil, DL.w_fsCons, DL.w_isT, DL.w_revA, DL.s_try, DL.s_raiseI, DL.s_tryP, DL.s_endX, DL.w_isXT, DL.i_any, DL.ia_tup, DL.ia_str, DL.ia_lst, DL.ia_scr, DL.ia_cel, DL.gl_glo, DL.w_callA, DL.s_tryN, DL.s_never, DL.s_fld, DL.w_listN, DL.g_seq, DL.g_cons, DL.g_nil, DL.g_nm, DL.t_yes, DL.wipe_cons, DL.wipe_nil, DL.nn_non, DL.nn_int, DL.nn_str, DL.nn_bl, DL.nn_tup, DL.nn_lst, DL.w_fmR, DL.w_owns, DL.w_nes, DL.w_obSs, DL.w_meths, DL.w_xf, DL.i_zip, DL.w_revB, DL.s_new2, DL.w_callN2, DL.s_dct, DL.s_setd, DL.s_popk, DL.s_ext, DL.w_itT, DL.i_itT, DL.i_enum, DL.w_lock, DL.w_sortSet, DL.w_sortK, List.map_cons, List.map_nil, List.length_cons, List.length_nil, List.cons_append, List.nil_append, List.append_nil, List.drop_zero, List.drop_nil, List.drop_succ_cons, List.getElem?_cons_zero, List.getElem?_cons_succ, List.set_cons_zero, List.set_cons_succ, List.replicate_succ, List.replicate_zero, Option.join_some, Option.map_some, if_true, if_false, Bool.not_true, Bool.not_false, true_and, and_true, Nat.reduceAdd, Nat.reduceSub, Nat.reduceLeDiff, decide_true, decide_false, Bool.false_eq_true, Option.bind_some, Int.reduceToNat, List.getElem?_set_self, Int.reduceLT, Int.reduceLE, Int.reduceNeg, Int.reduceSub, Int.reduceAdd, Int.reduceMul, Int.reducePow, Nat.reduceLT, Int.reduceEq, ite_self, c_blk, f_top, f_left, f_bottom, f_right, is_has, is_size, PG.dfl_Block_repr__, PG.dfl_Block_size, PG.dfl_Block_str__, PG.dfl_by_ends, PG.dfl_column_text, PG.dfl_is_columns, PG.dfl_is_count, PG.dfl_is_rows, PG.dfl_letters_ahead, PG.dfl_letters_of, PG.dfl_row_text])
end PG
namespace PG
open PySem PySem.Spec PyProof.Rows L2 DL
/-! texts by their signs -/
end PG
namespace PG
open PySem PySem.Spec PyProof.Rows L2 DL
local macro_rules | `(tactic| trivial) => `(tactic| simp (config := { dsimp := false }) only [*, eq_self, DL.w_ok, DL.w_ex, DL.w_bind, DL.w_bindS, DL.o_some, DL.w_dC, DL.w_var, DL.w_op, DL.a_nil, DL.a_cons, DL.w_tup, DL.w_lst, DL.w_blt, DL.w_call, DL.w_callN, DL.w_or, DL.w_and, DL.w_not, DL.w_neg, DL.w_if, DL.w_chain, DL.t_tru, DL.t_tst, DL.t_and, DL.t_or, DL.t_not, DL.p_no, DL.p_some, DL.w_slc, DL.w_m1, DL.w_m0, DL.w_fld, DL.s_nil, DL.s_brk, DL.s_cnt, DL.s_retN, DL.s_raise, DL.s_seq, DL.s_ret, DL.s_exp, DL.s_if, DL.s_set, DL.s_new, DL.s_cel, DL.s_retC, DL.s_par, DL.s_asg, DL.e_add, DL.e_sub, DL.e_mulR, DL.e_mulL, DL.e_modS, DL.e_divS, DL.e_pow, DL.e_lt, DL.e_le, DL.e_gt, DL.e_ge, DL.e_is, DL.e_isN, DL.e_eqI, DL.e_neI, DL.e_eqS, DL.e_neS, DL.h_bl, DL.h_int, DL.h_non, DL.b_bl, DL.i_int, DL.s_str, DL.l_lst, DL.q_lst, DL.q_tup, DL.c_lst, DL.c_seq, DL.c_lis, DL.x_cel, DL.x_lst, DL.x_tup, DL.at_nn, DL.ix_in, DL.p_cel, DL.e_mulIf, DL.e_mulM, DL.t_len, DL.t_intB, DL.start, DL.s_setIx, DL.s_for, DL.i_rng, DL.i_rng2, DL.w_lc, DL.r_one, DL.s_app, DL.g_cel, DL.w_dct0, DL.w_meth, DL.isC_obj, DL.w_make, DL.w_pick, DL.pick_cons, DL.pick_nil, DL.w_own, DL.w_ne, DL.w_obS, DL.cls_obj, DL.fld_obj, DL.w_fmt, DL.w_fs, DL.w_fsNil, DL.w_fsCons, DL.w_isT, DL.w_revA, DL.s_try, DL.s_raiseI, DL.s_tryP, DL.s_endX, DL.w_isXT, DL.i_any, DL.ia_tup, DL.ia_str, DL.ia_lst, DL.ia_scr, DL.ia_cel, DL.gl_glo, DL.w_callA, DL.s_tryN, DL.s_never, DL.s_fld, DL.w_listN, DL.g_seq, DL.g_cons, DL.g_nil, DL.g_nm, DL.t_yes, DL.wipe_cons, DL.wipe_nil, DL.nn_non, DL.nn_int, DL.nn_str, DL.nn_bl, DL.nn_tup, DL.nn_lst, DL.w_fmR, DL.w_owns, DL.w_nes, DL.w_obSs, DL.w_meths, DL.w_xf, DL.i_zip, DL.w_revB, DL.s_new2, DL.w_callN2, DL.s_dct, DL.s_setd, DL.s_popk, DL.s_ext, DL.w_itT, DL.i_itT, DL.i_enum, DL.w_lock, DL.w_sortSet, DL.w_sortK, List.map_cons, List.map_nil, List.length_cons, List.length_nil, List.cons_append, List.nil_append, List.append_nil, List.drop_zero, List.drop_nil, List.drop_succ_cons, List.getElem?_cons_zero, List.getElem?_cons_succ, List.set_cons_zero, List.set_cons_succ, List.replicate_succ, List.replicate_zero, Option.join_some, Option.map_some, if_true, if_false, Bool.not_true, Bool.not_false, true_and, and_true, Nat.reduceAdd, Nat.reduceSub, Nat.reduceLeDiff, decide_true, decide_false, Bool.false_eq_true, Option.bind_some, Int.reduceToNat, List.getElem?_set_self, Int.reduceLT, Int.reduceLE, Int.reduceNeg, Int.reduceSub, Int.reduceAdd, Int.reduceMul, Int.reducePow, Nat.reduceLT, Int.reduceEq, ite_self, t_isS, t_isN, t_isB, Option.isSome, PG.dfl_count_of, PG.dfl_number_of, PG.dfl_parted])
end PG
namespace PG
open PySem PySem.Spec PyProof.Rows L2 DL
theorem opt_none' : opt none = .non := rfl
theorem opt_some' {i : Int} : opt (some i) = .int i := rfl
local macro_rules | `(tactic| trivial) => `(tactic| simp (config := { dsimp := false }) only [*, eq_self, DL.w_ok, DL.w_ex, DL.w_bind, DL.w_bindS, DL.o_some, DL.w_dC, DL.w_var, DL.w_op, DL.a_nil, DL.a_cons, DL.w_tup, DL.w_lst, DL.w_blt, DL.w_call, DL.w_callN, DL.w_or, DL.w_and, DL.w_not, DL.w_neg, DL.w_if, DL.w_chain, DL.t_tru, DL.t_tst, DL.t_and, DL.t_or, DL.t_not, DL.p_no, DL.p_some, DL.w_slc, DL.w_m1, DL.w_m0, DL.w_fld, DL.s_nil, DL.s_brk, DL.s_cnt, DL.s_retN, DL.s_raise, DL.s_seq, DL.s_ret, DL.s_exp, DL.s_if, DL.s_set, DL.s_new, DL.s_cel, DL.s_retC, DL.s_par, DL.s_asg, DL.e_add, DL.e_sub, DL.e_mulR, DL.e_mulL, DL.e_modS, DL.e_divS, DL.e_pow, DL.e_lt, DL.e_le, DL.e_gt, DL.e_ge, DL.e_is, DL.e_isN, DL.e_eqI, DL.e_neI, DL.e_eqS, DL.e_neS, DL.h_bl, DL.h_int, DL.h_non, DL.b_bl, DL.i_int, DL.s_str, DL.l_lst, DL.q_lst, DL.q_tup, DL.c_lst, DL.c_seq, DL.c_lis, DL.x_cel, DL.x_lst, DL.x_tup, DL.at_nn, DL.ix_in, DL.p_cel, DL.e_mulIf, DL.e_mulM, DL.t_len, DL.t_intB, DL.start, DL.s_setIx, DL.s_for, DL.i_rng, DL.i_rng2, DL.w_lc, DL.r_one, DL.s_app, DL.g_cel, DL.w_dct0, DL.w_meth, DL.isC_obj, DL.w_make, DL.w_pick, DL.pick_cons, DL.pick_nil, DL.w_own, DL.w_ne, DL.w_obS, DL.cls_obj, DL.fld_obj, DL.w_fmt, DL.w_fs, DL.w_fsNil, DL.w_fsCons, DL.w_isT, DL.w_revA, DL.s_try, DL.s_raiseI, DL.s_tryP, DL.s_endX, DL.w_isXT, DL.i_any, DL.ia_tup, DL.ia_str, DL.ia_lst, DL.ia_scr, DL.ia_cel, DL.gl_glo, DL.w_callA, DL.s_tryN, DL.s_never, DL.s_fld, DL.w_listN, DL.g_seq, DL.g_cons, DL.g_nil, DL.g_nm, DL.t_yes, DL.wipe_cons, DL.wipe_nil, DL.nn_non, DL.nn_int, DL.nn_str, DL.nn_bl, DL.nn_tup, DL.nn_lst, DL.w_fmR, DL.w_owns, DL.w_nes, DL.w_obSs, DL.w_meths, DL.w_xf, DL.i_zip, DL.w_revB, DL.s_new2, DL.w_callN2, DL.s_dct, DL.s_setd, DL.s_popk, DL.s_ext, DL.w_itT, DL.i_itT, DL.i_enum, DL.w_lock, DL.w_sortSet, DL.w_sortK, List.map_cons, List.map_nil, List.length_cons, List.length_nil, List.cons_append, List.nil_append, List.append_nil, List.drop_zero, List.drop_nil, List.drop_succ_cons, List.getElem?_cons_zero, List.getElem?_cons_succ, List.set_cons_zero, List.set_cons_succ, List.replicate_succ, List.replicate_zero, Option.join_some, Option.map_some, if_true, if_false, Bool.not_true, Bool.not_false, true_and, and_true, Nat.reduceAdd, Nat.reduceSub, Nat.reduceLeDiff, decide_true, decide_false, Bool.false_eq_true, Option.bind_some, Int.reduceToNat, List.getElem?_set_self, Int.reduceLT, Int.reduceLE, Int.reduceNeg, Int.reduceSub, Int.reduceAdd, Int.reduceMul, Int.reducePow, Nat.reduceLT, Int.reduceEq, ite_self, t_isS, c_blk, Option.isSome, Option.getD, opt_none', opt_some', PG.dfl_Block_init__, PG.dfl_Block_str__, PG.dfl_block_of, PG.dfl_count_of, PG.dfl_number_of, PG.dfl_parted])
end PG
namespace PG
open PySem PySem.Spec PyProof.Rows L2 DL
end PG
namespace PG
open PySem PySem.Spec PyProof.Rows L2 DL
local macro_rules | `(tactic| trivial) => `(tactic| simp (config := { dsimp := false }) only [*, eq_self, DL.w_ok, DL.w_ex, DL.w_bind, DL.w_bindS, DL.o_some, DL.w_dC, DL.w_var, DL.w_op, DL.a_nil, DL.a_cons, DL.w_tup, DL.w_lst, DL.w_blt, DL.w_call, DL.w_callN, DL.w_or, DL.w_and, DL.w_not, DL.w_neg, DL.w_if, DL.w_chain, DL.t_tru, DL.t_tst, DL.t_and, DL.t_or, DL.t_not, DL.p_no, DL.p_some, DL.w_slc, DL.w_m1, DL.w_m0, DL.w_fld, DL.s_nil, DL.s_brk, DL.s_cnt, DL.s_retN, DL.s_raise, DL.s_seq, DL.s_ret, DL.s_exp, DL.s_if, DL.s_set, DL.s_new, DL.s_cel, DL.s_retC, DL.s_par, DL.s_asg, DL.e_add, DL.e_sub, DL.e_mulR, DL.e_mulL, DL.e_modS, DL.e_divS, DL.e_pow, DL.e_lt, DL.e_le, DL.e_gt, DL.e_ge, DL.e_is, DL.e_isN, DL.e_eqI, DL.e_neI, DL.e_eqS, DL.e_neS, DL.h_bl, DL.h_int, DL.h_non, DL.b_bl, DL.i_int, DL.s_str, DL.l_lst, DL.q_lst, DL.q_tup, DL.c_lst, DL.c_seq, DL.c_lis, DL.x_cel, DL.x_lst, DL.x_tup, DL.at_nn, DL.ix_in, DL.p_cel, DL.e_mulIf, DL.e_mulM, DL.t_len, DL.t_intB, DL.start, DL.s_setIx, DL.s_for, DL.i_rng, DL.i_rng2, DL.w_lc, DL.r_one, DL.s_app, DL.g_cel, DL.w_dct0, DL.w_meth, DL.isC_obj, DL.w_make, DL.w_pick, DL.pick_cons, DL.pick_nil, DL.w_own, DL.w_ne, DL.w_obS, DL.cls_obj, DL.fld_obj, DL.w_fmt, DL.w_fs, DL.w_fsNil, DL.w_fsCons, DL.w_isT, DL.w_revA, DL.s_try, DL.s_raiseI, DL.s_tryP, DL.s_endX, DL.w_isXT, DL.i_any, DL.ia_tup, DL.ia_str, DL.ia_lst, DL.ia_scr, DL.ia_cel, DL.gl_glo, DL.w_callA, DL.s_tryN, DL.s_never, DL.s_fld, DL.w_listN, DL.g_seq, DL.g_cons, DL.g_nil, DL.g_nm, DL.t_yes, DL.wipe_cons, DL.wipe_nil, DL.nn_non, DL.nn_int, DL.nn_str, DL.nn_bl, DL.nn_tup, DL.nn_lst, DL.w_fmR, DL.w_owns, DL.w_nes, DL.w_obSs, DL.w_meths, DL.w_xf, DL.i_zip, DL.w_revB, DL.s_new2, DL.w_callN2, DL.s_dct, DL.s_setd, DL.s_popk, DL.s_ext, DL.w_itT, DL.i_itT, DL.i_enum, DL.w_lock, DL.w_sortSet, DL.w_sortK, List.map_cons, List.map_nil, List.length_cons, List.length_nil, List.cons_append, List.nil_append, List.append_nil, List.drop_zero, List.drop_nil, List.drop_succ_cons, List.getElem?_cons_zero, List.getElem?_cons_succ, List.set_cons_zero, List.set_cons_succ, List.replicate_succ, List.replicate_zero, Option.join_some, Option.map_some, if_true, if_false, Bool.not_true, Bool.not_false, true_and, and_true, Nat.reduceAdd, Nat.reduceSub, Nat.reduceLeDiff, decide_true, decide_false, Bool.false_eq_true, Option.bind_some, Int.reduceToNat, List.getElem?_set_self, Int.reduceLT, Int.reduceLE, Int.reduceNeg, Int.reduceSub, Int.reduceAdd, Int.reduceMul, Int.reducePow, Nat.reduceLT, Int.reduceEq, ite_self, t_isS, c_blk, opt_none', opt_some', PG.dfl_law_letters, PG.dfl_law_text])
end PG
namespace PG
open PySem PySem.Spec PyProof.Rows L2 DL
local macro_rules | `(tactic| trivial) => `(tactic| simp (config := { dsimp := false }) only [*, eq_self, DL.w_ok, DL.w_ex, DL.w_bind, DL.w_bindS, DL.o_some, DL.w_dC, DL.w_var, DL.w_op, DL.a_nil, DL.a_cons, DL.w_tup, DL.w_lst, DL.w_blt, DL.w_call, DL.w_callN, DL.w_or, DL.w_and, DL.w_not, DL.w_neg, DL.w_if, DL.w_chain, DL.t_tru, DL.t_tst, DL.t_and, DL.t_or, DL.t_not, DL.p_no, DL.p_some, DL.w_slc, DL.w_m1, DL.w_m0, DL.w_fld, DL.s_nil, DL.s_brk, DL.s_cnt, DL.s_retN, DL.s_raise, DL.s_seq, DL.s_ret, DL.s_exp, DL.s_if, DL.s_set, DL.s_new, DL.s_cel, DL.s_retC, DL.s_par, DL.s_asg, DL.e_add, DL.e_sub, DL.e_mulR, DL.e_mulL, DL.e_modS, DL.e_divS, DL.e_pow, DL.e_lt, DL.e_le, DL.e_gt, DL.e_ge, DL.e_is, DL.e_isN, DL.e_eqI, DL.e_neI, DL.e_eqS, DL.e_neS, DL.h_bl, DL.h_int, DL.h_non, DL.b_bl, DL.i_int, DL.s_str, DL.l_lst, DL.q_lst, DL.q_tup, DL.c_lst, DL.c_seq, DL.c_lis, DL.x_cel, DL.x_lst, DL.x_tup, DL.at_nn, DL.ix_in, DL.p_cel, DL.e_mulIf, DL.e_mulM, DL.t_len, DL.t_intB, DL.start, DL.s_setIx, DL.s_for, DL.i_rng, DL.i_rng2, DL.w_lc, DL.r_one, DL.s_app, DL.g_cel, DL.w_dct0, DL.w_meth, DL.isC_obj, DL.w_make, DL.w_pick, DL.pick_cons, DL.pick_nil, DL.w_own, DL.w_ne, DL.w_obS, DL.cls_obj, DL.fld_obj, DL.w_fmt, DL.w_fs, DL.w_fsNil, DL.w_fsCons, DL.w_isT, DL.w_revA, DL.s_try, DL.s_raiseI, DL.s_tryP, DL.s_endX, DL.w_isXT, DL.i_any, DL.ia_tup, DL.ia_str, DL.ia_lst, DL.ia_scr, DL.ia_cel, DL.gl_glo, DL.w_callA, DL.s_tryN, DL.s_never, DL.s_fld, DL.w_listN, DL.g_seq, DL.g_cons, DL.g_nil, DL.g_nm, DL.t_yes, DL.wipe_cons, DL.wipe_nil, DL.nn_non, DL.nn_int, DL.nn_str, DL.nn_bl, DL.nn_tup, DL.nn_lst, DL.w_fmR, DL.w_owns, DL.w_nes, DL.w_obSs, DL.w_meths, DL.w_xf, DL.i_zip, DL.w_revB, DL.s_new2, DL.w_callN2, DL.s_dct, DL.s_setd, DL.s_popk, DL.s_ext, DL.w_itT, DL.i_itT, DL.i_enum, DL.w_lock, DL.w_sortSet, DL.w_sortK, List.map_cons, List.map_nil, List.length_cons, List.length_nil, List.cons_append, List.nil_append, List.append_nil, List.drop_zero, List.drop_nil, List.drop_succ_cons, List.getElem?_cons_zero, List.getElem?_cons_succ, List.set_cons_zero, List.set_cons_succ, List.replicate_succ, List.replicate_zero, Option.join_some, Option.map_some, if_true, if_false, Bool.not_true, Bool.not_false, true_and, and_true, Nat.reduceAdd, Nat.reduceSub, Nat.reduceLeDiff, decide_true, decide_false, Bool.false_eq_true, Option.bind_some, Int.reduceToNat, List.getElem?_set_self, Int.reduceLT, Int.reduceLE, Int.reduceNeg, Int.reduceSub, Int.reduceAdd, Int.reduceMul, Int.reducePow, Nat.reduceLT, Int.reduceEq, ite_self, c_blk, f_top, f_left, f_bottom, f_right, is_has, is_size, PG.dfl_law_block, PG.dfl_law_draw, PG.dfl_law_last, PG.dfl_law_number])
end PG
namespace PG
open PySem PySem.Spec PyProof.Rows L2 DL
/-! data that is the same is equal -/
/-- what a def hands back: a datum, or a list of its own, as it stands -/
def FRc (n : Nat) (m : List M) (d : D) (Q : D → List M → Prop) : Prop :=
  FR n m d Q ∨ ∃ i l, d = .cel i ∧ n ≤ i ∧ m[i]? = some (.lst l) ∧ cleans 0 l = true ∧ Cln m ∧ Q (.lst l) (m.take n)
theorem wo_fnC {m : List M} {nN np : Nat} {body : DS} {ds : List D} {Q : D → List M → Prop} {X : XP} (hn : ds.length = np)
    (h : WS (body (DL.start nN ds) m) (fun _ m' => FR m.length m' .non Q) (fun d m' => FRc m.length m' d Q) (fun _ _ => False) (fun _ _ => False) (fun c ns l _ m' => cleans 0 l = true ∧ Cln m' ∧ X c ns l (m'.take m.length)) ⟨⟩) :
    WO (fnG nN np body ds m) Q X ⟨⟩ := by
  unfold fnG
  rw [if_pos hn]
  cases e : body (DL.start nN ds) m with
  | nx e' m' =>
    rw [e] at h
    obtain ⟨h1, h2, h3⟩ := h
    rw [fin_nx h2.all]
    exact h3
  | rt d m' =>
    rw [e] at h
    rcases h with ⟨h1, h2, h3⟩ | ⟨i, l, rfl, h1, h2, h3, h4, h5⟩
    · rw [fin_rt (clean_up d h1) h2.all]
      exact h3
    · have e1 : subMs m.length (rsv m.length m' 20) (m'.take m.length) = some (m'.take m.length) := subMs_clean _ h4.all
      have e2 : sub m.length (rsv m.length m' 20) (.cel i) = some (.lst l) := by
        show (if i < m.length then some (D.cel i) else rsv m.length m' 20 i) = _
        rw [if_neg (Nat.not_lt.mpr h1)]
        show rsv m.length m' (19 + 1) i = _
        unfold rsv
        rw [h2]
        show (subs m.length (rsv m.length m' 19) l).map D.lst = _
        rw [subs_clean l (cleans_up l h3)]
        rfl
      show WO (match finD m.length m' (.cel i) with | some (d, μ3) => Out.ok d μ3 | none => .stuck) Q X ⟨⟩
      unfold finD
      rw [e2, e1]
      exact h5
  | ex c ns l e' m' =>
    rw [e] at h
    obtain ⟨h1, h2, h3⟩ := h
    rw [fin_ex (cleans_up l h1) h2.all]
    exact h3
  | bk _ _ => rw [e] at h; exact h.elim
  | ct _ _ => rw [e] at h; exact h.elim
  | stuck => rw [e] at h; exact h.elim
end PG
namespace PG
open PySem PySem.Spec PyProof.Rows L2 DL
local macro_rules | `(tactic| trivial) => `(tactic| simp (config := { dsimp := false }) only [*, eq_self, DL.w_ok, DL.w_ex, DL.w_bind, DL.w_bindS, DL.o_some, DL.w_dC, DL.w_var, DL.w_op, DL.a_nil, DL.a_cons, DL.w_tup, DL.w_lst, DL.w_blt, DL.w_call, DL.w_callN, DL.w_or, DL.w_and, DL.w_not, DL.w_neg, DL.w_if, DL.w_chain, DL.t_tru, DL.t_tst, DL.t_and, DL.t_or, DL.t_not, DL.p_no, DL.p_some, DL.w_slc, DL.w_m1, DL.w_m0, DL.w_fld, DL.s_nil, DL.s_brk, DL.s_cnt, DL.s_retN, DL.s_raise, DL.s_seq, DL.s_ret, DL.s_exp, DL.s_if, DL.s_set, DL.s_new, DL.s_cel, DL.s_retC, DL.s_par, DL.s_asg, DL.e_add, DL.e_sub, DL.e_mulR, DL.e_mulL, DL.e_modS, DL.e_divS, DL.e_pow, DL.e_lt, DL.e_le, DL.e_gt, DL.e_ge, DL.e_is, DL.e_isN, DL.e_eqI, DL.e_neI, DL.e_eqS, DL.e_neS, DL.h_bl, DL.h_int, DL.h_non, DL.b_bl, DL.i_int, DL.s_str, DL.l_lst, DL.q_lst, DL.q_tup, DL.c_lst, DL.c_seq, DL.c_lis, DL.x_cel, DL.x_lst, DL.x_tup, DL.at_nn, DL.ix_in, DL.p_cel, DL.e_mulIf, DL.e_mulM, DL.t_len, DL.t_intB, DL.start, DL.s_setIx, DL.s_for, DL.i_rng, DL.i_rng2, DL.w_lc, DL.r_one, DL.s_app, DL.g_cel, DL.w_dct0, DL.w_meth, DL.isC_obj, DL.w_make, DL.w_pick, DL.pick_cons, DL.pick_nil, DL.w_own, DL.w_ne, DL.w_obS, DL.cls_obj, DL.fld_obj, DL.w_fmt, DL.w_fs, DL.w_fsNil, DL.w_fsCons, DL.w_isT, DL.w_revA, DL.s_try, DL.s_raiseI, DL.s_tryP, DL.s_endX, DL.w_isXT, DL.i_any, DL.ia_tup, DL.ia_str, DL.ia_lst, DL.ia_scr, DL.ia_cel, DL.gl_glo, DL.w_callA, DL.s_tryN, DL.s_never, DL.s_fld, DL.w_listN, DL.g_seq, DL.g_cons, DL.g_nil, DL.g_nm, DL.t_yes, DL.wipe_cons, DL.wipe_nil, DL.nn_non, DL.nn_int, DL.nn_str, DL.nn_bl, DL.nn_tup, DL.nn_lst, DL.w_fmR, DL.w_owns, DL.w_nes, DL.w_obSs, DL.w_meths, DL.w_xf, DL.i_zip, DL.w_revB, DL.s_new2, DL.w_callN2, DL.s_dct, DL.s_setd, DL.s_popk, DL.s_ext, DL.w_itT, DL.i_itT, DL.i_enum, DL.w_lock, DL.w_sortSet, DL.w_sortK, List.map_cons, List.map_nil, List.length_cons, List.length_nil, List.cons_append, List.nil_append, List.append_nil, List.drop_zero, List.drop_nil, List.drop_succ_cons, List.getElem?_cons_zero, List.getElem?_cons_succ, List.set_cons_zero, List.set_cons_succ, List.replicate_succ, List.replicate_zero, Option.join_some, Option.map_some, if_true, if_false, Bool.not_true, Bool.not_false, true_and, and_true, Nat.reduceAdd, Nat.reduceSub, Nat.reduceLeDiff, decide_true, decide_false, Bool.false_eq_true, Option.bind_some, Int.reduceToNat, List.getElem?_set_self, Int.reduceLT, Int.reduceLE, Int.reduceNeg, Int.reduceSub, Int.reduceAdd, Int.reduceMul, Int.reducePow, Nat.reduceLT, Int.reduceEq, ite_self, optN, optS, PG.dfl_stretches])
def enF (k : Nat) : List Int → List D
  | [] => []
  | a :: l => .tup [.int (k : Nat), .int a] :: enF (k + 1) l
theorem enum_go : ∀ (l : List Int) (k : Nat), ((l.map D.int).zipIdx k).map (fun p => D.tup [.int (p.2 : Nat), p.1]) = enF k l
  | [], _ => rfl
  | a :: l, k => congrArg (D.tup [.int (k : Nat), .int a] :: ·) (enum_go l (k + 1))
section
variable {μ : List M} {p : Iv} {es : List Iv} {i j n : Int} {b : Blk} {bs : List Blk} {o : Option Int} {ns : List Int}
theorem ints_of : ∀ {l : List Int}, intsD (l.map D.int) = some l
  | [] => rfl
  | a :: l => by
    show (intsD (l.map D.int)).map (a :: ·) = _
    rw [ints_of]; rfl
theorem x_stre (hc : Cln μ) (hl : ns.length ≤ 4000) : G_stretches [.lst (ns.map .int)] μ = .ok (ivsD (spans (usort ns))) μ := by
  apply eq_ok
  unfold G_stretches
  refine wo_fnC rfl ?_
  unfold D_stretches ivsD
  have s1 : ssO μ (.lst (ns.map D.int)) = some (.lst ((usort ns).map D.int)) := ss_lst ints_of hl
  have hl2 : (usort ns).length ≤ 4000 := by
    have z1 : ∀ (k : Int) (l : List Int), (ins1 k l).length ≤ l.length + 1 := fun k l => by
      induction l with
      | nil => exact Nat.le_refl _
      | cons x l ih =>
        unfold ins1
        split
        · exact Nat.le_refl _
        · split
          · exact Nat.le_succ _
          · exact Nat.succ_le_succ ih
    have z2 : ∀ l : List Int, (usort l).length ≤ l.length := fun l => by
      induction l with
      | nil => exact Nat.le_refl _
      | cons x l ih => exact Nat.le_trans (z1 x (usort l)) (Nat.succ_le_succ ih)
    exact Nat.le_trans (z2 ns) hl
  generalize usort ns = cs at *
  have e1 : ∀ m : List M, enumO m [.lst (cs.map D.int)] = some (enF 0 cs, fun μ2 => seqOf μ2 (.lst (cs.map D.int)) = some (cs.map D.int)) := fun m => by
    have z : enumO m [.lst (cs.map D.int)] = some (enumD (cs.map D.int), fun μ2 => seqOf μ2 (.lst (cs.map D.int)) = some (cs.map D.int)) := rfl
    rw [z]
    unfold enumD
    rw [enum_go]
  have al : ∀ x : M, (μ ++ [x])[μ.length]? = some x := fun x => List.getElem?_concat_length
  have sl : ∀ x y : M, (μ ++ [x]).set μ.length y = μ ++ [y] := fun x y => by rw [List.set_append_right _ _ (Nat.le_refl _), Nat.sub_self]; rfl
  have fin : FRc μ.length (μ ++ [.lst ((spans cs).map ivD)]) (.cel μ.length) (fun x m' => x = .lst ((spans cs).map ivD) ∧ m' = μ) := .inr ⟨μ.length, _, rfl, Nat.le_refl _, al _, clean_ivs, hc.snoc (show cleanM 0 (.lst ((spans cs).map ivD)) = true from clean_ivs), rfl, List.take_left⟩
  clear hl
  trivial
  refine s_forGo (fun xs e m => ∃ (pre post : List Int) (f : List Iv) (e2 e3 e4 : Option D), pre ++ post = cs ∧ f ++ spans post = spans cs ∧ f.length = pre.length ∧ xs = enF pre.length post ∧ e = [some (.lst (cs.map D.int)), some (.cel μ.length), e2, e3, e4] ∧ m = μ ++ [.lst (f.map ivD)]) ?_ ?_ _ _ _ ⟨[], cs, [], none, none, none, rfl, rfl, rfl, rfl, rfl, rfl⟩
  · rintro e m ⟨pre, post, f, e2, e3, e4, h1, h2, h3, h4, rfl, rfl⟩
    refine ⟨⟨⟩, ?_⟩
    cases post with
    | cons _ _ => cases h4
    | nil =>
      have h2' : f = spans cs := by rw [← h2]; exact (List.append_nil f).symm
      subst h2'
      clear s1 e1
      trivial
  · rintro x xs e m ⟨pre, post, f, e2, e3, e4, h1, h2, h3, h4, rfl, rfl⟩
    refine ⟨⟨⟩, ?_⟩
    cases post with
    | nil => cases h4
    | cons a post =>
      cases h4
      have ln : bLen (μ ++ [.lst (f.map ivD)]) [.lst (cs.map D.int)] = some (.int cs.length) := by
        rw [t_len q_lst, List.length_map]
      have lt : f.length < 100000 := by rw [← h1, List.length_append, List.length_cons] at hl2; omega
      have lt' : (f.map ivD).length < 100000 := by rw [List.length_map]; exact lt
      have ex : ∀ (o : Option Int), (f.map ivD ++ [.tup [.int a, opt o]]) = (f ++ [(a, o)]).map ivD := fun o => by rw [List.map_append]; rfl
      cases post with
      | nil =>
        have n1 : ¬ ((pre.length : Int) + 1 < (cs.length : Int)) := by
          rw [← h1, List.length_append]
          show ¬ (_ < ((pre.length + 1 : Nat) : Int))
          omega
        have ex := ex none
        rw [optN] at ex
        clear s1 e1 fin hl2 lt
        trivial
        exact ⟨pre ++ [a], [], f ++ [(a, none)], _, _, _, by rw [← h1, List.append_assoc]; rfl, by rw [← h2, List.append_assoc]; rfl, by rw [List.length_append, List.length_append, h3]; rfl, rfl, rfl, rfl⟩
      | cons b r =>
        have n1 : (pre.length : Int) + 1 < (cs.length : Int) := by
          rw [← h1, List.length_append, List.length_cons, List.length_cons]
          omega
        have n2 : opIx (μ ++ [.lst (f.map ivD)]) (.lst (cs.map D.int)) (.int ((pre.length : Int) + 1)) = some (.int b) := by
          show atI (cs.map D.int) _ = _
          rw [at_nn (by omega), show ((pre.length : Int) + 1).toNat = pre.length + 1 from by omega, ← h1, List.getElem?_map, List.getElem?_append_right (by omega), show pre.length + 1 - pre.length = 1 from by omega]
          rfl
        have ex := ex (some (b - 1))
        rw [optS] at ex
        clear s1 e1 fin hl2 lt
        trivial
        exact ⟨pre ++ [a], b :: r, f ++ [(a, some (b - 1))], _, _, _, by rw [← h1, List.append_assoc]; rfl, by rw [← h2, List.append_assoc]; rfl, by rw [List.length_append, List.length_append, h3]; rfl, by rw [List.length_append]; rfl, rfl, rfl⟩
end
end PG
namespace PG
open PySem PySem.Spec PyProof.Rows L2 DL
local macro_rules | `(tactic| trivial) => `(tactic| simp (config := { dsimp := false }) only [*, eq_self, DL.w_ok, DL.w_ex, DL.w_bind, DL.w_bindS, DL.o_some, DL.w_dC, DL.w_var, DL.w_op, DL.a_nil, DL.a_cons, DL.w_tup, DL.w_lst, DL.w_blt, DL.w_call, DL.w_callN, DL.w_or, DL.w_and, DL.w_not, DL.w_neg, DL.w_if, DL.w_chain, DL.t_tru, DL.t_tst, DL.t_and, DL.t_or, DL.t_not, DL.p_no, DL.p_some, DL.w_slc, DL.w_m1, DL.w_m0, DL.w_fld, DL.s_nil, DL.s_brk, DL.s_cnt, DL.s_retN, DL.s_raise, DL.s_seq, DL.s_ret, DL.s_exp, DL.s_if, DL.s_set, DL.s_new, DL.s_cel, DL.s_retC, DL.s_par, DL.s_asg, DL.e_add, DL.e_sub, DL.e_mulR, DL.e_mulL, DL.e_modS, DL.e_divS, DL.e_pow, DL.e_lt, DL.e_le, DL.e_gt, DL.e_ge, DL.e_is, DL.e_isN, DL.e_eqI, DL.e_neI, DL.e_eqS, DL.e_neS, DL.h_bl, DL.h_int, DL.h_non, DL.b_bl, DL.i_int, DL.s_str, DL.l_lst, DL.q_lst, DL.q_tup, DL.c_lst, DL.c_seq, DL.c_lis, DL.x_cel, DL.x_lst, DL.x_tup, DL.at_nn, DL.ix_in, DL.p_cel, DL.e_mulIf, DL.e_mulM, DL.t_len, DL.t_intB, DL.start, DL.s_setIx, DL.s_for, DL.i_rng, DL.i_rng2, DL.w_lc, DL.r_one, DL.s_app, DL.g_cel, DL.w_dct0, DL.w_meth, DL.isC_obj, DL.w_make, DL.w_pick, DL.pick_cons, DL.pick_nil, DL.w_own, DL.w_ne, DL.w_obS, DL.cls_obj, DL.fld_obj, DL.w_fmt, DL.w_fs, DL.w_fsNil, DL.w_fsCons, DL.w_isT, DL.w_revA, DL.s_try, DL.s_raiseI, DL.s_tryP, DL.s_endX, DL.w_isXT, DL.i_any, DL.ia_tup, DL.ia_str, DL.ia_lst, DL.ia_scr, DL.ia_cel, DL.gl_glo, DL.w_callA, DL.s_tryN, DL.s_never, DL.s_fld, DL.w_listN, DL.g_seq, DL.g_cons, DL.g_nil, DL.g_nm, DL.t_yes, DL.wipe_cons, DL.wipe_nil, DL.nn_non, DL.nn_int, DL.nn_str, DL.nn_bl, DL.nn_tup, DL.nn_lst, DL.w_fmR, DL.w_owns, DL.w_nes, DL.w_obSs, DL.w_meths, DL.w_xf, DL.i_zip, DL.w_revB, DL.s_new2, DL.w_callN2, DL.s_dct, DL.s_setd, DL.s_popk, DL.s_ext, DL.w_itT, DL.i_itT, DL.i_enum, DL.w_lock, DL.w_sortSet, DL.w_sortK, List.map_cons, List.map_nil, List.length_cons, List.length_nil, List.cons_append, List.nil_append, List.append_nil, List.drop_zero, List.drop_nil, List.drop_succ_cons, List.getElem?_cons_zero, List.getElem?_cons_succ, List.set_cons_zero, List.set_cons_succ, List.replicate_succ, List.replicate_zero, Option.join_some, Option.map_some, if_true, if_false, Bool.not_true, Bool.not_false, true_and, and_true, Nat.reduceAdd, Nat.reduceSub, Nat.reduceLeDiff, decide_true, decide_false, Bool.false_eq_true, Option.bind_some, Int.reduceToNat, List.getElem?_set_self, Int.reduceLT, Int.reduceLE, Int.reduceNeg, Int.reduceSub, Int.reduceAdd, Int.reduceMul, Int.reducePow, Nat.reduceLT, Int.reduceEq, ite_self, optN, optS, c_blk, f_top, f_left, f_bottom, f_right, PG.dfl_columns_at, PG.dfl_cuts_of, PG.dfl_either, PG.dfl_is_at, PG.dfl_one_alone, PG.dfl_runs_by, PG.dfl_stretches, PG.dfl_with_run])
def unO : D → Option Int
  | .int i => some i
  | _ => none
theorem unO_opt {o : Option Int} : unO (opt o) = o := by cases o <;> rfl
def unI : D → Iv
  | .tup [.int a, o] => (a, unO o)
  | _ => (0, none)
theorem unI_iv {p : Iv} : unI (ivD p) = p := by
  show (p.1, unO (opt p.2)) = p
  rw [unO_opt]
def unB : D → Blk
  | .obj _ _ [.int t, .int l, b, r] => ⟨t, l, unO b, unO r⟩
  | _ => ⟨0, 0, none, none⟩
theorem unB_blk {b : Blk} : unB (blkD b) = b := by
  show Blk.mk b.t b.l (unO (opt b.b)) (unO (opt b.r)) = b
  rw [unO_opt, unO_opt]
def blksD (l : List Blk) : D := .lst (l.map blkD)
section
variable {μ m : List M} {p : Iv} {es one other : List Iv} {i j n : Int} {b : Blk} {bs cs : List Blk} {o : Option Int} {g : Str} {G : GF} {kp : Bool → Bool → Bool}
theorem any_map {α : Type} {f : α → Bool} {l : List α} : bAny m [.lst (l.map fun x => .bl (f x))] = some (.bl (l.any f)) := by
  show (match lstOf m (.lst (l.map fun x => D.bl (f x))) with | some l => (bools l).map fun bs => D.bl (List.any bs id) | none => none) = _
  rw [l_lst]
  show (bools (l.map fun x => D.bl (f x))).map _ = _
  have z : bools (l.map fun x => D.bl (f x)) = some (l.map f) := by
    induction l with
    | nil => rfl
    | cons x l ih => rw [List.map_cons]; show (bools (l.map fun x => D.bl (f x))).map (f x :: ·) = _; rw [ih]; rfl
  rw [z]
  show some (D.bl ((l.map f).any id)) = _
  rw [List.any_map]
  rfl
theorem x_cols (hc : Cln μ) (hl : bs.length ≤ 50000) : G_columns_at [blksD bs, .int i] μ = .ok (ivsD (colsAt bs i)) μ := by
  apply eq_ok
  unfold G_columns_at
  refine wo_fn rfl ?_
  unfold D_columns_at blksD ivsD
  have c1 := lc_pure (m := μ) (g := fun _ => True) (tg := gNm 2) (tt := dTru (dCall 3 G_is_at [] (aCons (dFld "top" (dVar 2)) (aCons (dFld "bottom" (dVar 2)) (aCons (dVar 1) aNil))))) (el := dTup (aCons (dFld "left" (dVar 2)) (aCons (dFld "right" (dVar 2)) aNil))) (env0 := [some (.lst (bs.map blkD)), some (.int i), none]) (fun x => isAt ((unB x).t, (unB x).b) i) (fun x => ivD ((unB x).l, (unB x).r)) ⟨⟩ (bs.map blkD) [] (fun x hx => by
    obtain ⟨b, m, rfl⟩ := List.mem_map.mp hx
    refine ⟨_, rfl, ?_, fun _ => ?_⟩
    · have e1 := x_is_at (μ := μ) (p := (b.t, b.b)) (n := i) hc
      rw [unB_blk]
      suffices h : WO (dTru (dCall 3 G_is_at [] (aCons (dFld "top" (dVar 2)) (aCons (dFld "bottom" (dVar 2)) (aCons (dVar 1) aNil)))) [some (.lst (bs.map blkD)), some (.int i), some (blkD b)] μ) (fun x m' => x = isAt (b.t, b.b) i ∧ m' = μ) xNo ⟨⟩ by
        obtain ⟨x, m, e, rfl, rfl⟩ := h.ex_
        exact e
      trivial
    · rw [unB_blk]
      apply eq_ok
      trivial
      all_goals rfl) (by show 0 + _ ≤ _; rw [List.length_map]; omega)
  have e1 : ((bs.map blkD).filter fun x => isAt ((unB x).t, (unB x).b) i).map (fun x => ivD ((unB x).l, (unB x).r)) = (colsAt bs i).map ivD := by
    unfold colsAt
    rw [List.filter_map, List.map_map, List.map_map]
    have : ((fun x => isAt ((unB x).t, (unB x).b) i) ∘ blkD) = fun b => isAt (b.t, b.b) i := by funext b; show isAt ((unB (blkD b)).t, (unB (blkD b)).b) i = _; rw [unB_blk]
    rw [this]
    apply List.map_congr_left
    intro b _
    show ivD ((unB (blkD b)).l, (unB (blkD b)).r) = _
    rw [unB_blk]; rfl
  rw [e1, List.nil_append] at c1
  clear e1 hl
  trivial
  exact fr_same hc clean_ivs ⟨rfl, rfl⟩
theorem clean_bands : ∀ {l : List (Iv × List Iv)} {k : Nat}, cleans k (l.map fun b => D.tup [.int b.1.1, opt b.1.2, ivsD b.2]) = true
  | [], _ => rfl
  | b :: l, k => by
    show ((true && (clean k (opt b.1.2) && (cleans k (b.2.map ivD) && true))) && cleans k (l.map fun b => D.tup [.int b.1.1, opt b.1.2, ivsD b.2])) = true
    rw [clean_opt, clean_ivs, clean_bands]; rfl
theorem cuts_len {es : List Iv} : (cutsOf es).length ≤ 2 * es.length := by
  unfold cutsOf
  have := List.length_filterMap_le (fun p : Iv => p.2.map (· + 1)) es
  rw [List.length_append, List.length_map]; omega
theorem usort_len {l : List Int} : (usort l).length ≤ l.length := by
  have z1 : ∀ (k : Int) (l : List Int), (ins1 k l).length ≤ l.length + 1 := fun k l => by
    induction l with
    | nil => exact Nat.le_refl _
    | cons x l ih =>
      unfold ins1
      split
      · exact Nat.le_refl _
      · split
        · exact Nat.le_succ _
        · exact Nat.succ_le_succ ih
  induction l with
  | nil => exact Nat.le_refl _
  | cons x l ih => exact Nat.le_trans (z1 x (usort l)) (Nat.succ_le_succ ih)
theorem spans_len : ∀ {cs : List Int}, (spans cs).length = cs.length
  | [] => rfl
  | [a] => rfl
  | a :: b :: r => by
    show (spans (b :: r)).length + 1 = _
    rw [spans_len]; rfl
theorem with_len {rs : List Iv} {f : Int} {l : Option Int} : (withRun rs f l).length ≤ rs.length + 1 := by
  unfold withRun
  split
  · split
    · rw [List.length_append, List.length_dropLast]; show _ - 1 + 1 ≤ _; omega
    · rw [List.length_append]; exact Nat.le_refl _
  · rw [List.length_append]; exact Nat.le_refl _
theorem goR_len {K : Int → Bool} : ∀ {ps rs : List Iv}, (goR K rs ps).length ≤ rs.length + ps.length
  | [], rs => Nat.le_refl _
  | p :: ps, rs => by
    show (goR K (if K p.1 = true then withRun rs p.1 p.2 else rs) ps).length ≤ _
    refine Nat.le_trans goR_len ?_
    rw [List.length_cons]
    split
    · have := with_len (rs := rs) (f := p.1) (l := p.2); omega
    · omega
theorem runs_len {one other : List Iv} : (runsBy kp one other).length ≤ 2 * (one.length + other.length) := by
  unfold runsBy
  refine Nat.le_trans goR_len ?_
  rw [spans_len]
  refine Nat.le_trans (Nat.add_le_add_left (Nat.le_trans usort_len cuts_len) _) ?_
  rw [List.length_append]
  show 0 + _ ≤ _
  omega
theorem x_runs (hG : candOf g [("either", 2, G_either), ("one_alone", 2, G_one_alone)] = some (2, G)) (hk : ∀ m a b, Cln m → G [.bl a, .bl b] m = .ok (.bl (kp a b)) m) (hc : Cln μ) (hl : one.length + other.length ≤ 1500) :
    G_runs_by [ivsD one, ivsD other, .glo g] μ = .ok (ivsD (runsBy kp one other)) μ := by
  apply eq_ok
  unfold G_runs_by
  refine wo_fn rfl ?_
  unfold D_runs_by
  have e1 : opAdd μ (ivsD one) (ivsD other) = some (ivsD (one ++ other)) := by
    unfold ivsD
    rw [e_addL l_lst l_lst, if_pos (by rw [List.length_map, List.length_map]; omega), List.map_append]
  have e2 := x_cuts (μ := μ) (es := one ++ other) hc (by rw [List.length_append]; omega)
  have e3 := x_stre (μ := μ) (ns := cutsOf (one ++ other)) hc (by
    refine Nat.le_trans cuts_len ?_
    rw [List.length_append]; omega)
  have ia : ∀ (m : List M) (l : List Iv), itAny m (ivsD l) = some (l.map ivD, fun _ => True) := fun m l => ia_lst
  have cm : ∀ (l : List Iv) (n : Int) (e : En), l.length ≤ 1500 → (∀ x, e[4]? = some (some (.int n)) ∧ (e.set 7 (some x))[7]? = some (some x) ∧ (e.set 7 (some x))[4]? = some (some (.int n))) →
      lcGo (fun _ => True) (gNm 7) tYes' (dCall 3 G_is_at [] (aCons (dOp opIx (dVar 7) (dC (.int 0))) (aCons (dOp opIx (dVar 7) (dC (.int 1))) (aCons (dVar 4) aNil)))) e (l.map ivD) μ [] = .ok (l.map fun p => .bl (isAt p n)) μ := fun l n e hl he => by
    have c1 := lc_map (m := μ) (g := fun _ => True) (tg := gNm 7) (el := dCall 3 G_is_at [] (aCons (dOp opIx (dVar 7) (dC (.int 0))) (aCons (dOp opIx (dVar 7) (dC (.int 1))) (aCons (dVar 4) aNil)))) (env0 := e) (fun x => .bl (isAt (unI x) n)) ⟨⟩ (l.map ivD) (fun x hx => by
      obtain ⟨p, m, rfl⟩ := List.mem_map.mp hx
      refine ⟨_, g_nm, ?_⟩
      have e1 := x_is_at (μ := μ) (p := p) (n := n) hc
      rw [unI_iv]
      obtain ⟨-, h1, h2⟩ := he (ivD p)
      generalize e.set 7 (some (ivD p)) = e' at *
      have i0 : opIx μ (ivD p) (.int 0) = some (.int p.1) := rfl
      have i1 : opIx μ (ivD p) (.int 1) = some (opt p.2) := rfl
      clear he
      generalize ivD p = P at *
      apply eq_ok
      trivial
      all_goals rfl) (by rw [List.length_map]; omega)
    rw [c1, List.map_map]
    congr 1
    apply List.map_congr_left
    intro p _
    show D.bl (isAt (unI (ivD p)) n) = _
    rw [unI_iv]
  have ws := fun (f : List Iv) (n : Int) (o : Option Int) h => x_with (μ := μ) (es := f) (n := n) (o := o) hc h
  have ea : ∀ (l : List Iv) (n : Int), bAny μ [.lst (l.map fun p => .bl (isAt p n))] = some (.bl (l.any (isAt · n))) := fun l n => any_map
  have e0 : (D.lst [] : D) = ivsD [] := rfl
  have c1 := cm one
  have c2 := cm other
  have ln : (spans (usort (cutsOf (one ++ other)))).length ≤ 3000 := by
    rw [spans_len]
    refine Nat.le_trans usort_len (Nat.le_trans cuts_len ?_)
    rw [List.length_append]; omega
  unfold runsBy
  generalize spans (usort (cutsOf (one ++ other))) = sp at *
  have fin : ∀ f : List Iv, f = goR (kepK kp one other) [] sp → FR μ.length μ (ivsD f) (fun x m' => x = ivsD (goR (kepK kp one other) [] sp) ∧ m' = μ) := fun f e => by
    rw [e]
    exact fr_same hc clean_ivs ⟨rfl, rfl⟩
  have c1 := fun (n : Int) (e3 e5 e6 e8 : Option D) => c1 n [some (ivsD one), some (ivsD other), some (.glo g), e3, some (.int n), e5, e6, none, e8] (by omega) fun x => ⟨rfl, rfl, rfl⟩
  have c2 := fun (n : Int) (e3 e5 e6 e8 : Option D) => c2 n [some (ivsD one), some (ivsD other), some (.glo g), e3, some (.int n), e5, e6, none, e8] (by omega) fun x => ⟨rfl, rfl, rfl⟩
  clear cm hl e0
  have hk := fun a b => hk μ a b hc
  have gs : ∀ (e : En) (p : Iv), gSeq 2 (gsCons (gNm 4) (gsCons (gNm 5) gsNil)) (ivD p) e μ = some ((e.set 4 (some (.int p.1))).set 5 (some (opt p.2))) := fun e p => rfl
  trivial
  refine s_forGo (fun xs e m => ∃ (ps f : List Iv) (e4 e5 e6 e8 : Option D), xs = ps.map ivD ∧ goR (kepK kp one other) f ps = goR (kepK kp one other) [] sp ∧ f.length + ps.length ≤ 3000 ∧ e = [some (ivsD one), some (ivsD other), some (.glo g), some (ivsD f), e4, e5, e6, none, e8] ∧ m = μ) ?_ ?_ _ _ _ ⟨sp, [], none, none, none, none, rfl, rfl, by show 0 + _ ≤ _; omega, rfl, rfl⟩
  · rintro e m ⟨ps, f, e4, e5, e6, e8, h1, h2, h3, rfl, rfl⟩
    refine ⟨⟨⟩, ?_⟩
    cases ps with
    | cons _ _ => cases h1
    | nil =>
      have fin := fin f h2
      clear e1 e2 e3 ia ws ea hk c1 c2 gs
      trivial
  · rintro x xs e m ⟨ps, f, e4, e5, e6, e8, h1, h2, h3, rfl, rfl⟩
    refine ⟨⟨⟩, ?_⟩
    cases ps with
    | nil => cases h1
    | cons p ps =>
      cases h1
      rw [List.length_cons] at h3
      have ws := ws f p.1 p.2 (by omega)
      have h2' : goR (kepK kp one other) (if kepK kp one other p.1 = true then withRun f p.1 p.2 else f) ps = goR (kepK kp one other) [] sp := h2
      have wl := with_len (rs := f) (f := p.1) (l := p.2)
      rw [gs]
      have z : kepK kp one other p.1 = kp (one.any (isAt · p.1)) (other.any (isAt · p.1)) := rfl
      rw [z] at h2'
      clear gs fin e1 e2 e3 h2 z ln
      have h3' := h3
      clear h3
      cases hq : kp (one.any (isAt · p.1)) (other.any (isAt · p.1)) with
      | true =>
        rw [hq, if_pos rfl] at h2'
        trivial
        exact ⟨ps, withRun f p.1 p.2, _, _, _, _, rfl, h2', by omega, rfl⟩
      | false =>
        rw [hq, if_neg Bool.false_ne_true] at h2'
        trivial
        exact ⟨ps, f, _, _, _, _, rfl, h2', by omega, rfl⟩
end
end PG
namespace PG
open PySem PySem.Spec PyProof.Rows L2 DL
local macro_rules | `(tactic| trivial) => `(tactic| simp (config := { dsimp := false }) only [*, eq_self, DL.w_ok, DL.w_ex, DL.w_bind, DL.w_bindS, DL.o_some, DL.w_dC, DL.w_var, DL.w_op, DL.a_nil, DL.a_cons, DL.w_tup, DL.w_lst, DL.w_blt, DL.w_call, DL.w_callN, DL.w_or, DL.w_and, DL.w_not, DL.w_neg, DL.w_if, DL.w_chain, DL.t_tru, DL.t_tst, DL.t_and, DL.t_or, DL.t_not, DL.p_no, DL.p_some, DL.w_slc, DL.w_m1, DL.w_m0, DL.w_fld, DL.s_nil, DL.s_brk, DL.s_cnt, DL.s_retN, DL.s_raise, DL.s_seq, DL.s_ret, DL.s_exp, DL.s_if, DL.s_set, DL.s_new, DL.s_cel, DL.s_retC, DL.s_par, DL.s_asg, DL.e_add, DL.e_sub, DL.e_mulR, DL.e_mulL, DL.e_modS, DL.e_divS, DL.e_pow, DL.e_lt, DL.e_le, DL.e_gt, DL.e_ge, DL.e_is, DL.e_isN, DL.e_eqI, DL.e_neI, DL.e_eqS, DL.e_neS, DL.h_bl, DL.h_int, DL.h_non, DL.b_bl, DL.i_int, DL.s_str, DL.l_lst, DL.q_lst, DL.q_tup, DL.c_lst, DL.c_seq, DL.c_lis, DL.x_cel, DL.x_lst, DL.x_tup, DL.at_nn, DL.ix_in, DL.p_cel, DL.e_mulIf, DL.e_mulM, DL.t_len, DL.t_intB, DL.start, DL.s_setIx, DL.s_for, DL.i_rng, DL.i_rng2, DL.w_lc, DL.r_one, DL.s_app, DL.g_cel, DL.w_dct0, DL.w_meth, DL.isC_obj, DL.w_make, DL.w_pick, DL.pick_cons, DL.pick_nil, DL.w_own, DL.w_ne, DL.w_obS, DL.cls_obj, DL.fld_obj, DL.w_fmt, DL.w_fs, DL.w_fsNil, DL.w_fsCons, DL.w_isT, DL.w_revA, DL.s_try, DL.s_raiseI, DL.s_tryP, DL.s_endX, DL.w_isXT, DL.i_any, DL.ia_tup, DL.ia_str, DL.ia_lst, DL.ia_scr, DL.ia_cel, DL.gl_glo, DL.w_callA, DL.s_tryN, DL.s_never, DL.s_fld, DL.w_listN, DL.g_seq, DL.g_cons, DL.g_nil, DL.g_nm, DL.t_yes, DL.wipe_cons, DL.wipe_nil, DL.nn_non, DL.nn_int, DL.nn_str, DL.nn_bl, DL.nn_tup, DL.nn_lst, DL.w_fmR, DL.w_owns, DL.w_nes, DL.w_obSs, DL.w_meths, DL.w_xf, DL.i_zip, DL.w_revB, DL.s_new2, DL.w_callN2, DL.s_dct, DL.s_setd, DL.s_popk, DL.s_ext, DL.w_itT, DL.i_itT, DL.i_enum, DL.w_lock, DL.w_sortSet, DL.w_sortK, List.map_cons, List.map_nil, List.length_cons, List.length_nil, List.cons_append, List.nil_append, List.append_nil, List.drop_zero, List.drop_nil, List.drop_succ_cons, List.getElem?_cons_zero, List.getElem?_cons_succ, List.set_cons_zero, List.set_cons_succ, List.replicate_succ, List.replicate_zero, Option.join_some, Option.map_some, if_true, if_false, Bool.not_true, Bool.not_false, true_and, and_true, Nat.reduceAdd, Nat.reduceSub, Nat.reduceLeDiff, decide_true, decide_false, Bool.false_eq_true, Option.bind_some, Int.reduceToNat, List.getElem?_set_self, Int.reduceLT, Int.reduceLE, Int.reduceNeg, Int.reduceSub, Int.reduceAdd, Int.reduceMul, Int.reducePow, Nat.reduceLT, Int.reduceEq, ite_self, optN, optS, c_blk, f_top, f_left, f_bottom, f_right, PG.dfl_bands_by, PG.dfl_columns_at, PG.dfl_cuts_of, PG.dfl_either, PG.dfl_one_alone, PG.dfl_runs_by, PG.dfl_stretches])
def bandD (b : Iv × List Iv) : D := .tup [.int b.1.1, opt b.1.2, ivsD b.2]
def bandsD (l : List (Iv × List Iv)) : D := .lst (l.map bandD)
section
variable {μ m : List M} {p : Iv} {es one other : List Iv} {i j n : Int} {b : Blk} {bs cs : List Blk} {o : Option Int} {g : Str} {G : GF} {kp : Bool → Bool → Bool}
theorem clean_bnds {l : List (Iv × List Iv)} {k : Nat} : cleans k (l.map bandD) = true := clean_bands
theorem cols_len {i : Int} : (colsAt bs i).length ≤ bs.length := by
  unfold colsAt
  rw [List.length_map]
  exact List.length_filter_le _ _
theorem clean_blks : ∀ {l : List Blk} {k : Nat}, cleans k (l.map blkD) = true
  | [], _ => rfl
  | b :: l, k => by
    show (clean k (blkD b) && cleans k (l.map blkD)) = true
    rw [clean_blk, clean_blks]; rfl
theorem ne_ivs {r : List Iv} : opNe m (ivsD r) (.lst []) = some (.bl (decide (r ≠ []))) := by
  show (if eqOk (.lst (r.map ivD)) (.lst []) = true then some (D.bl (!eqB (.lst (r.map ivD)) (.lst []))) else none) = _
  rw [if_pos]
  · cases r <;> rfl
  · show (plains _ && (true && (decide (deps _ + 1 ≤ 64) && true))) = true
    rw [plain_ivs, decide_eq_true (by have := dep_ivs (l := r); omega)]; rfl
theorem x_bands (hG : candOf g [("either", 2, G_either), ("one_alone", 2, G_one_alone)] = some (2, G)) (hk : ∀ m a b, Cln m → G [.bl a, .bl b] m = .ok (.bl (kp a b)) m) (hc : Cln μ) (hl : bs.length + cs.length ≤ 1500) :
    G_bands_by [blksD bs, blksD cs, .glo g] μ = .ok (bandsD (bandsBy kp bs cs)) μ := by
  apply eq_ok
  unfold G_bands_by
  refine wo_fnC rfl ?_
  unfold D_bands_by
  have hc1 : ∀ f : List (Iv × List Iv), Cln (μ ++ [.lst (f.map bandD)]) := fun f => hc.snoc (show cleanM 0 (.lst (f.map bandD)) = true from clean_bnds)
  have hc0 := hc1 []
  have e1 : opAdd (μ ++ [.lst []]) (blksD bs) (blksD cs) = some (blksD (bs ++ cs)) := by
    unfold blksD
    rw [e_addL l_lst l_lst, if_pos (by rw [List.length_map, List.length_map]; omega), List.map_append]
  have ll : ((bs ++ cs).map rowIv).length = bs.length + cs.length := by rw [List.length_map, List.length_append]
  have e2 := x_cuts (μ := μ ++ [.lst []]) (es := (bs ++ cs).map rowIv) hc0 (by omega)
  have e3 := x_stre (μ := μ ++ [.lst []]) (ns := cutsOf ((bs ++ cs).map rowIv)) hc0 (by
    refine Nat.le_trans cuts_len ?_
    omega)
  have ia : ∀ (m : List M) (l : List Iv), itAny m (ivsD l) = some (l.map ivD, fun _ => True) := fun m l => ia_lst
  have ib : ∀ (m : List M) (l : List Blk), itAny m (blksD l) = some (l.map blkD, fun _ => True) := fun m l => ia_lst
  have c1 : ∀ e : En, e = [some (blksD bs), some (blksD cs), some (.glo g), some (.cel μ.length), none, none, none, none] → lcGo (fun _ => True) (gNm 6) tYes' (dTup (aCons (dFld "top" (dVar 6)) (aCons (dFld "bottom" (dVar 6)) aNil))) e ((bs ++ cs).map blkD) (μ ++ [.lst []]) [] = .ok (((bs ++ cs).map rowIv).map ivD) (μ ++ [.lst []]) := fun e he => by
    have c1 := lc_map (m := μ ++ [.lst []]) (g := fun _ => True) (tg := gNm 6) (el := dTup (aCons (dFld "top" (dVar 6)) (aCons (dFld "bottom" (dVar 6)) aNil))) (env0 := e) (fun x => ivD (rowIv (unB x))) ⟨⟩ ((bs ++ cs).map blkD) (fun x hx => by
      obtain ⟨b, m, rfl⟩ := List.mem_map.mp hx
      refine ⟨_, g_nm, ?_⟩
      rw [unB_blk]
      clear ib ia e1 e2 e3
      subst he
      apply eq_ok
      trivial
      all_goals rfl) (by rw [List.length_map, List.length_append]; omega)
    rw [c1, List.map_map, List.map_map]
    congr 1
    apply List.map_congr_left
    intro b _
    show ivD (rowIv (unB (blkD b))) = _
    rw [unB_blk]; rfl
  have c1 := c1 _ rfl
  have e4 : (D.lst (((bs ++ cs).map rowIv).map ivD) : D) = ivsD ((bs ++ cs).map rowIv) := rfl
  have al : ∀ x : M, (μ ++ [x])[μ.length]? = some x := fun x => List.getElem?_concat_length
  have sl : ∀ x y : M, (μ ++ [x]).set μ.length y = μ ++ [y] := fun x y => by rw [List.set_append_right _ _ (Nat.le_refl _), Nat.sub_self]; rfl
  have cols := fun (f : List (Iv × List Iv)) (l : List Blk) (i : Int) h => x_cols (bs := l) (i := i) (hc1 f) h
  have runs := fun (f : List (Iv × List Iv)) (one other : List Iv) h => x_runs (one := one) (other := other) hG hk (hc1 f) h
  have gs : ∀ (e : En) (p : Iv) (m : List M), gSeq 2 (gsCons (gNm 4) (gsCons (gNm 5) gsNil)) (ivD p) e m = some ((e.set 4 (some (.int p.1))).set 5 (some (opt p.2))) := fun e p m => rfl
  have ln : (spans (usort (cutsOf ((bs ++ cs).map rowIv)))).length ≤ 3000 := by
    rw [spans_len]
    refine Nat.le_trans usort_len (Nat.le_trans cuts_len ?_)
    omega
  unfold bandsBy
  generalize spans (usort (cutsOf ((bs ++ cs).map rowIv))) = sp at *
  have fin : ∀ f, f = bandsOn (rowR kp bs cs) sp → FRc μ.length (μ ++ [.lst (f.map bandD)]) (.cel μ.length) (fun x m' => x = bandsD (bandsOn (rowR kp bs cs) sp) ∧ m' = μ) := fun f e => by
    subst e
    exact .inr ⟨μ.length, _, rfl, Nat.le_refl _, al _, clean_bnds, hc1 _, rfl, List.take_left⟩
  clear hc hG hk hc0 hc1 ll
  trivial
  clear e1 e2 e3 ib c1 e4 ia
  refine s_forGo (fun xs e m => ∃ (ps : List Iv) (f : List (Iv × List Iv)) (e4 e5 e7 : Option D), xs = ps.map ivD ∧ f ++ bandsOn (rowR kp bs cs) ps = bandsOn (rowR kp bs cs) sp ∧ f.length + ps.length ≤ 3000 ∧ e = [some (blksD bs), some (blksD cs), some (.glo g), some (.cel μ.length), e4, e5, none, e7] ∧ m = μ ++ [.lst (f.map bandD)]) ?_ ?_ _ _ _ ⟨sp, [], none, none, none, rfl, rfl, by show 0 + _ ≤ _; omega, rfl, rfl⟩
  · rintro e m ⟨ps, f, e4, e5, e7, h1, h2, h3, rfl, rfl⟩
    refine ⟨⟨⟩, ?_⟩
    cases ps with
    | cons _ _ => cases h1
    | nil =>
      have fin := fin f (by rw [← h2]; exact (List.append_nil f).symm)
      clear cols runs gs
      trivial
  · rintro x xs e m ⟨ps, f, e4, e5, e7, h1, h2, h3, rfl, rfl⟩
    refine ⟨⟨⟩, ?_⟩
    cases ps with
    | nil => cases h1
    | cons p ps =>
      cases h1
      rw [List.length_cons] at h3
      have k1 := cols f bs p.1 (by omega)
      have k2 := cols f cs p.1 (by omega)
      have k3 := runs f (colsAt bs p.1) (colsAt cs p.1) (by
        have := cols_len (bs := bs) (i := p.1)
        have := cols_len (bs := cs) (i := p.1)
        omega)
      have z : runsBy kp (colsAt bs p.1) (colsAt cs p.1) = rowR kp bs cs p.1 := rfl
      rw [z] at k3
      have k4 := ne_ivs (m := μ ++ [.lst (f.map bandD)]) (r := rowR kp bs cs p.1)
      have h4 : (f.map bandD).length < 100000 := by rw [List.length_map]; omega
      have h3' := h3
      rw [gs]
      clear cols runs gs fin h3 z
      unfold bandsOn at h2
      rw [List.filterMap_cons] at h2
      by_cases hq : rowR kp bs cs p.1 = []
      · rw [if_pos hq] at h2
        rw [decide_eq_false (fun h => h hq)] at k4
        clear hq
        trivial
        exact ⟨ps, f, _, _, _, rfl, h2, by omega, rfl, rfl⟩
      · rw [if_neg hq] at h2
        rw [decide_eq_true hq] at k4
        clear hq
        have ap : f.map bandD ++ [.tup [.int p.1, opt p.2, ivsD (rowR kp bs cs p.1)]] = (f ++ [(p, rowR kp bs cs p.1)]).map bandD := by rw [List.map_append]; rfl
        trivial
        exact ⟨ps, f ++ [(p, rowR kp bs cs p.1)], _, _, _, rfl, by rw [List.append_assoc]; exact h2, by rw [List.length_append]; show _ + 1 + _ ≤ _; omega, rfl, rfl⟩
end
end PG
namespace PG
open PySem PySem.Spec PyProof.Rows L2 DL
local macro_rules | `(tactic| trivial) => `(tactic| simp (config := { dsimp := false }) only [*, eq_self, DL.w_ok, DL.w_ex, DL.w_bind, DL.w_bindS, DL.o_some, DL.w_dC, DL.w_var, DL.w_op, DL.a_nil, DL.a_cons, DL.w_tup, DL.w_lst, DL.w_blt, DL.w_call, DL.w_callN, DL.w_or, DL.w_and, DL.w_not, DL.w_neg, DL.w_if, DL.w_chain, DL.t_tru, DL.t_tst, DL.t_and, DL.t_or, DL.t_not, DL.p_no, DL.p_some, DL.w_slc, DL.w_m1, DL.w_m0, DL.w_fld, DL.s_nil, DL.s_brk, DL.s_cnt, DL.s_retN, DL.s_raise, DL.s_seq, DL.s_ret, DL.s_exp, DL.s_if, DL.s_set, DL.s_new, DL.s_cel, DL.s_retC, DL.s_par, DL.s_asg, DL.e_add, DL.e_sub, DL.e_mulR, DL.e_mulL, DL.e_modS, DL.e_divS, DL.e_pow, DL.e_lt, DL.e_le, DL.e_gt, DL.e_ge, DL.e_is, DL.e_isN, DL.e_eqI, DL.e_neI, DL.e_eqS, DL.e_neS, DL.h_bl, DL.h_int, DL.h_non, DL.b_bl, DL.i_int, DL.s_str, DL.l_lst, DL.q_lst, DL.q_tup, DL.c_lst, DL.c_seq, DL.c_lis, DL.x_cel, DL.x_lst, DL.x_tup, DL.at_nn, DL.ix_in, DL.p_cel, DL.e_mulIf, DL.e_mulM, DL.t_len, DL.t_intB, DL.start, DL.s_setIx, DL.s_for, DL.i_rng, DL.i_rng2, DL.w_lc, DL.r_one, DL.s_app, DL.g_cel, DL.w_dct0, DL.w_meth, DL.isC_obj, DL.w_make, DL.w_pick, DL.pick_cons, DL.pick_nil, DL.w_own, DL.w_ne, DL.w_obS, DL.cls_obj, DL.fld_obj, DL.w_fmt, DL.w_fs, DL.w_fsNil, DL.w_fsCons, DL.w_isT, DL.w_revA, DL.s_try, DL.s_raiseI, DL.s_tryP, DL.s_endX, DL.w_isXT, DL.i_any, DL.ia_tup, DL.ia_str, DL.ia_lst, DL.ia_scr, DL.ia_cel, DL.gl_glo, DL.w_callA, DL.s_tryN, DL.s_never, DL.s_fld, DL.w_listN, DL.g_seq, DL.g_cons, DL.g_nil, DL.g_nm, DL.t_yes, DL.wipe_cons, DL.wipe_nil, DL.nn_non, DL.nn_int, DL.nn_str, DL.nn_bl, DL.nn_tup, DL.nn_lst, DL.w_fmR, DL.w_owns, DL.w_nes, DL.w_obSs, DL.w_meths, DL.w_xf, DL.i_zip, DL.w_revB, DL.s_new2, DL.w_callN2, DL.s_dct, DL.s_setd, DL.s_popk, DL.s_ext, DL.w_itT, DL.i_itT, DL.i_enum, DL.w_lock, DL.w_sortSet, DL.w_sortK, List.map_cons, List.map_nil, List.length_cons, List.length_nil, List.cons_append, List.nil_append, List.append_nil, List.drop_zero, List.drop_nil, List.drop_succ_cons, List.getElem?_cons_zero, List.getElem?_cons_succ, List.set_cons_zero, List.set_cons_succ, List.replicate_succ, List.replicate_zero, Option.join_some, Option.map_some, if_true, if_false, Bool.not_true, Bool.not_false, true_and, and_true, Nat.reduceAdd, Nat.reduceSub, Nat.reduceLeDiff, decide_true, decide_false, Bool.false_eq_true, Option.bind_some, Int.reduceToNat, List.getElem?_set_self, Int.reduceLT, Int.reduceLE, Int.reduceNeg, Int.reduceSub, Int.reduceAdd, Int.reduceMul, Int.reducePow, Nat.reduceLT, Int.reduceEq, ite_self, optN, optS, c_blk, f_top, f_left, f_bottom, f_right, PG.dfl_Block_init__, PG.dfl_is_count, PG.dfl_is_end])
def keyO (p : Iv) : List (Option Int) := [some p.1, p.2]
def kysO (be : List (Iv × Int)) : List (List (Option Int)) := be.map fun e => keyO e.1
def vlsO (be : List (Iv × Int)) : List D := be.map fun e => .int e.2
def itD (e : Iv × Int) : D := .tup [ivD e.1, .int e.2]
def memF (μ : List M) (fo : List Blk) (be : List (Iv × Int)) : List M := μ ++ [.lst (fo.map blkD)] ++ [.dcT (kysO be) (vlsO be)]
section
variable {μ m : List M} {p r : Iv} {be : List (Iv × Int)} {fo : List Blk} {J : Nat} {b : Blk} {t f : Int} {a : M}
theorem keyO_inj {p q : Iv} (h : keyO p = keyO q) : p = q := by
  injection h with h1 h2
  injection h2 with h2 _
  injection h1 with h1
  exact Prod.ext h1 h2
theorem key_iv : keyD (ivD p) = some (keyO p) := by
  obtain ⟨a, o⟩ := p
  cases o <;> rfl
theorem oD_opt {o : Option Int} : oD o = opt o := by cases o <;> rfl
theorem items_it : ∀ {be : List (Iv × Int)}, itemsD (kysO be) (vlsO be) = be.map itD
  | [] => rfl
  | e :: be => by
    show D.tup [.tup [oD (some e.1.1), oD e.1.2], .int e.2] :: itemsD (kysO be) (vlsO be) = itD e :: be.map itD
    rw [items_it, oD_opt, oD_opt]; rfl
theorem kys_mem : keyO r ∈ kysO be ↔ r ∈ be.map (·.1) := by
  unfold kysO
  rw [List.mem_map, List.mem_map]
  exact ⟨fun ⟨e, m, h⟩ => ⟨e, m, keyO_inj h⟩, fun ⟨e, m, h⟩ => ⟨e, m, by rw [h]⟩⟩
theorem kys_filter : (kysO be).filter (fun x => decide (x ≠ keyO r)) = kysO (be.filter fun e => decide (e.1 ≠ r)) := by
  unfold kysO
  rw [List.filter_map]
  congr 1
  apply List.filter_congr
  intro e _
  show decide (keyO e.1 ≠ keyO r) = _
  by_cases h : e.1 = r
  · rw [h]; simp
  · exact (decide_eq_true (p := keyO e.1 ≠ keyO r) (fun z => h (keyO_inj z))).trans (decide_eq_true (p := e.1 ≠ r) h).symm
theorem vls_filter : ∀ {be : List (Iv × Int)}, dropL (keyO r) (kysO be) (vlsO be) = vlsO (be.filter fun e => decide (e.1 ≠ r))
  | [] => rfl
  | e :: be => by
    show (if keyO e.1 = keyO r then dropL (keyO r) (kysO be) (vlsO be) else .int e.2 :: dropL (keyO r) (kysO be) (vlsO be)) = _
    rw [vls_filter, List.filter_cons]
    by_cases h : e.1 = r
    · rw [if_pos (by rw [h]), if_neg (by rw [h]; simp)]
    · rw [if_neg (fun z => h (keyO_inj z)), if_pos (by simp [h])]; rfl
theorem mem_at0 : (memF μ fo be)[μ.length]? = some (.lst (fo.map blkD)) := by
  unfold memF
  rw [List.append_assoc, List.getElem?_append_right (Nat.le_refl _), Nat.sub_self]; rfl
theorem mem_at1 (hJ : J = μ.length + 1) : (memF μ fo be)[J]? = some (.dcT (kysO be) (vlsO be)) := by
  unfold memF
  rw [hJ, List.append_assoc, List.getElem?_append_right (by omega), show μ.length + 1 - μ.length = 1 from by omega]; rfl
theorem mem_set0 : (memF μ fo be).set μ.length (.lst (fo.map blkD ++ [blkD b])) = memF μ (fo ++ [b]) be := by
  unfold memF
  rw [List.append_assoc, List.set_append_right _ _ (Nat.le_refl _), Nat.sub_self, List.append_assoc, List.map_append]; rfl
theorem mem_set1 (hJ : J = μ.length + 1) : (memF μ fo be).set J a = μ ++ [.lst (fo.map blkD)] ++ [a] := by
  unfold memF
  rw [hJ, List.append_assoc, List.append_assoc, List.set_append_right _ _ (by omega), show μ.length + 1 - μ.length = 1 from by omega]; rfl
theorem mem_tab (hJ : J = μ.length + 1) : tabOf (memF μ fo be) (.cel J) = some (J, kysO be, vlsO be) := by
  show (match (memF μ fo be)[J]? with | some (.dcT ks l) => some (J, ks, l) | _ => none) = _
  rw [mem_at1 hJ]
theorem vls_clean : ∀ {be : List (Iv × Int)} {k : Nat}, cleans k (vlsO be) = true
  | [], _ => rfl
  | _ :: be, k => vls_clean (be := be)
theorem mem_cln (hc : Cln μ) : Cln (memF μ fo be) := (hc.snoc (show cleanM 0 (.lst (fo.map blkD)) = true from clean_blks)).snoc (show cleanM 0 (.dcT (kysO be) (vlsO be)) = true from vls_clean)
theorem mem_setd (hJ : J = μ.length + 1) (hl : be.length < 100000) : setdO (memF μ fo be) (.cel J) [ivD r, .int f] = some (memF μ fo (if r ∈ be.map (·.1) then be else be ++ [(r, f)])) := by
  show (keyD (ivD r)).bind _ = _
  rw [key_iv, Option.bind_some, mem_tab hJ, Option.bind_some, if_pos (by show (kysO be).length < _; unfold kysO; rw [List.length_map]; exact hl)]
  unfold setdM
  dsimp only
  by_cases h : r ∈ be.map (·.1)
  · rw [if_pos (kys_mem.mpr h), if_pos h]
  · rw [if_neg (fun z => h (kys_mem.mp z)), if_neg h, mem_set1 hJ]
    unfold memF kysO vlsO
    rw [List.map_append, List.map_append]; rfl
theorem mem_pop (hJ : J = μ.length + 1) (h : r ∈ be.map (·.1)) : popkO (memF μ fo be) (.cel J) [ivD r] = some (memF μ fo (be.filter fun e => decide (e.1 ≠ r))) := by
  show (keyD (ivD r)).bind _ = _
  rw [key_iv, Option.bind_some, mem_tab hJ, Option.bind_some, if_pos (kys_mem.mpr h)]
  unfold dropM
  dsimp only
  rw [kys_filter, vls_filter, mem_set1 hJ]; rfl
theorem mem_it (hJ : J = μ.length + 1) (hl : be.length ≤ 100000) : itTO (memF μ fo be) (.cel J) = some (.lst (be.map itD)) := by
  unfold itTO
  rw [mem_tab hJ, Option.bind_some, if_pos (by show (kysO be).length ≤ _; unfold kysO; rw [List.length_map]; exact hl), items_it]
theorem in_runs {rs : List Iv} : opIn3 true m (ivD p) (ivsD rs) = some (.bl (!decide (p ∈ rs))) := by
  show (if (plain (ivD p) && (decide (dep (ivD p) ≤ 8) && (rs.map ivD).all plain)) = true then some (D.bl (!((rs.map ivD).any fun d => eqB d (ivD p)))) else none) = _
  rw [if_pos]
  · congr 3
    induction rs with
    | nil => rfl
    | cons x rs ih =>
      rw [List.map_cons, List.any_cons, ih, eqB_iv]
      by_cases h : x = p
      · subst h; simp
      · by_cases h2 : p ∈ rs
        · simp [h, h2]
        · simp [h, h2, Ne.symm h]
  · rw [plain_iv, dep_iv]
    show ((rs.map ivD).all plain) = true
    rw [List.all_map]
    exact List.all_eq_true.mpr fun x _ => plain_iv
theorem mk_blk {q : Option Int} {e : Iv × Int} (hc : Cln m) (h : (blkOf q e).Ok) : makeD "Block" 5 G_Block_init__ [.int e.2, .int e.1.1, opt q, opt e.1.2] m = .ok (blkD (blkOf q e)) m := x_make (b := blkOf q e) hc h
end
end PG
namespace PG
open PySem PySem.Spec PyProof.Rows L2 DL
local macro_rules | `(tactic| trivial) => `(tactic| simp (config := { dsimp := false }) only [*, eq_self, DL.w_ok, DL.w_ex, DL.w_bind, DL.w_bindS, DL.o_some, DL.w_dC, DL.w_var, DL.w_op, DL.a_nil, DL.a_cons, DL.w_tup, DL.w_lst, DL.w_blt, DL.w_call, DL.w_callN, DL.w_or, DL.w_and, DL.w_not, DL.w_neg, DL.w_if, DL.w_chain, DL.t_tru, DL.t_tst, DL.t_and, DL.t_or, DL.t_not, DL.p_no, DL.p_some, DL.w_slc, DL.w_m1, DL.w_m0, DL.w_fld, DL.s_nil, DL.s_brk, DL.s_cnt, DL.s_retN, DL.s_raise, DL.s_seq, DL.s_ret, DL.s_exp, DL.s_if, DL.s_set, DL.s_new, DL.s_cel, DL.s_retC, DL.s_par, DL.s_asg, DL.e_add, DL.e_sub, DL.e_mulR, DL.e_mulL, DL.e_modS, DL.e_divS, DL.e_pow, DL.e_lt, DL.e_le, DL.e_gt, DL.e_ge, DL.e_is, DL.e_isN, DL.e_eqI, DL.e_neI, DL.e_eqS, DL.e_neS, DL.h_bl, DL.h_int, DL.h_non, DL.b_bl, DL.i_int, DL.s_str, DL.l_lst, DL.q_lst, DL.q_tup, DL.c_lst, DL.c_seq, DL.c_lis, DL.x_cel, DL.x_lst, DL.x_tup, DL.at_nn, DL.ix_in, DL.p_cel, DL.e_mulIf, DL.e_mulM, DL.t_len, DL.t_intB, DL.start, DL.s_setIx, DL.s_for, DL.i_rng, DL.i_rng2, DL.w_lc, DL.r_one, DL.s_app, DL.g_cel, DL.w_dct0, DL.w_meth, DL.isC_obj, DL.w_make, DL.w_pick, DL.pick_cons, DL.pick_nil, DL.w_own, DL.w_ne, DL.w_obS, DL.cls_obj, DL.fld_obj, DL.w_fmt, DL.w_fs, DL.w_fsNil, DL.w_fsCons, DL.w_isT, DL.w_revA, DL.s_try, DL.s_raiseI, DL.s_tryP, DL.s_endX, DL.w_isXT, DL.i_any, DL.ia_tup, DL.ia_str, DL.ia_lst, DL.ia_scr, DL.ia_cel, DL.gl_glo, DL.w_callA, DL.s_tryN, DL.s_never, DL.s_fld, DL.w_listN, DL.g_seq, DL.g_cons, DL.g_nil, DL.g_nm, DL.t_yes, DL.wipe_cons, DL.wipe_nil, DL.nn_non, DL.nn_int, DL.nn_str, DL.nn_bl, DL.nn_tup, DL.nn_lst, DL.w_fmR, DL.w_owns, DL.w_nes, DL.w_obSs, DL.w_meths, DL.w_xf, DL.i_zip, DL.w_revB, DL.s_new2, DL.w_callN2, DL.s_dct, DL.s_setd, DL.s_popk, DL.s_ext, DL.w_itT, DL.i_itT, DL.i_enum, DL.w_lock, DL.w_sortSet, DL.w_sortK, List.map_cons, List.map_nil, List.length_cons, List.length_nil, List.cons_append, List.nil_append, List.append_nil, List.drop_zero, List.drop_nil, List.drop_succ_cons, List.getElem?_cons_zero, List.getElem?_cons_succ, List.set_cons_zero, List.set_cons_succ, List.replicate_succ, List.replicate_zero, Option.join_some, Option.map_some, if_true, if_false, Bool.not_true, Bool.not_false, true_and, and_true, Nat.reduceAdd, Nat.reduceSub, Nat.reduceLeDiff, decide_true, decide_false, Bool.false_eq_true, Option.bind_some, Int.reduceToNat, List.getElem?_set_self, Int.reduceLT, Int.reduceLE, Int.reduceNeg, Int.reduceSub, Int.reduceAdd, Int.reduceMul, Int.reducePow, Nat.reduceLT, Int.reduceEq, ite_self, optN, optS, c_blk, f_top, f_left, f_bottom, f_right, PG.dfl_Block_init__, PG.dfl_is_count, PG.dfl_is_end])
section
variable {μ m : List M} {p r : Iv} {be : List (Iv × Int)} {fo : List Blk} {J : Nat} {b : Blk} {t f q : Int} {rs : List Iv}
variable {g : List M → Prop} {N : En → List M → Prop} {R : D → List M → Prop} {B C : En → List M → Prop} {Z : Str → List Str → List D → En → List M → Prop}
theorem nd_drop {done es : List (Iv × Int)} {e : Iv × Int} (P : Iv × Int → Bool) (nd : ((done ++ e :: es).map (·.1)).Nodup) : (done.filter P ++ e :: es).filter (fun x => decide (x.1 ≠ e.1)) = done.filter P ++ es := by
  rw [List.map_append, List.map_cons] at nd
  obtain ⟨n1, n2, n3⟩ := List.nodup_append.mp nd
  obtain ⟨n4, n5⟩ := List.nodup_cons.mp n2
  rw [List.filter_append, List.filter_cons, if_neg (by simp)]
  congr 1
  · rw [List.filter_eq_self]
    intro x hx
    have hx := (List.mem_filter.mp hx).1
    refine decide_eq_true fun z => ?_
    exact n3 _ (List.mem_map.mpr ⟨x, hx, rfl⟩) _ List.mem_cons_self z
  · rw [List.filter_eq_self]
    intro x hx
    refine decide_eq_true fun z => n4 ?_
    rw [← z]
    exact List.mem_map.mpr ⟨x, hx, rfl⟩
def foA (fo : List Blk) (q f : Int) (rs : List Iv) (done : List (Iv × Int)) : List Blk := fo ++ (done.filter (drp q f rs)).map (blkOf (some q))
def beA (q f : Int) (rs : List Iv) (done es : List (Iv × Int)) : List (Iv × Int) := done.filter (fun e => !drp q f rs e) ++ es
theorem st_drop {done es : List (Iv × Int)} {e : Iv × Int} (nd : ((done ++ e :: es).map (·.1)).Nodup) (hd : drp q f rs e = true) :
    memF μ (foA fo q f rs done ++ [blkOf (some q) e]) ((beA q f rs done (e :: es)).filter fun x => decide (x.1 ≠ e.1)) = memF μ (foA fo q f rs (done ++ [e])) (beA q f rs (done ++ [e]) es) := by
  unfold foA beA
  rw [nd_drop _ nd, List.filter_append, List.filter_append, List.map_append]
  have w1 : [e].filter (drp q f rs) = [e] := by rw [List.filter_cons, if_pos hd]; rfl
  have w2 : [e].filter (fun e => !drp q f rs e) = [] := by rw [List.filter_cons, if_neg (by rw [hd]; decide)]; rfl
  rw [w1, w2, List.append_nil, List.append_assoc]; rfl
theorem st_keep {done es : List (Iv × Int)} {e : Iv × Int} (hd : drp q f rs e = false) :
    memF μ (foA fo q f rs done) (beA q f rs done (e :: es)) = memF μ (foA fo q f rs (done ++ [e])) (beA q f rs (done ++ [e]) es) := by
  unfold foA beA
  rw [List.filter_append, List.filter_append, List.map_append]
  have w1 : [e].filter (drp q f rs) = [] := by rw [List.filter_cons, if_neg (by rw [hd]; decide)]; rfl
  have w2 : [e].filter (fun e => !drp q f rs e) = [e] := by rw [List.filter_cons, if_pos (by rw [hd]; rfl)]; rfl
  rw [w1, w2, List.map_nil, List.append_nil, List.append_assoc]; rfl
theorem form1 {e0 e5 e7 e8 : Option D} (hJ : J = μ.length + 1) (hc : Cln μ) (hg : ∀ m, g m) (nd : (be.map (·.1)).Nodup) (hl : fo.length + be.length ≤ 90000) (hok : ∀ e ∈ be, drp q f rs e = true → (blkOf (some q) e).Ok)
    (k : ∀ e7 e8, N [e0, some (.cel μ.length), some (.cel J), some (.int q), some (.int f), e5, some (ivsD rs), e7, e8] (memF μ (fo ++ (be.filter (drp q f rs)).map (blkOf (some q))) (be.filter fun e => !drp q f rs e))) :
    WS (forGo g (gSeq 2 (gsCons (gNm 7) (gsCons (gNm 8) gsNil)))
    (sIf (tOr2 (dTst (dOp (opIn3 true) (dVar 7) (dVar 6))) (dTst (dOp opNe (dVar 4) (dOp opAdd (dVar 3) (dC (.int 1))))))
    (sSeq (sApp (dVar 1) (dMake "Block" 5 G_Block_init__ [] (aCons (dVar 8) (aCons (dOp opIx (dVar 7) (dC (.int 0))) (aCons (dVar 3) (aCons (dOp opIx (dVar 7) (dC (.int 1))) aNil))))))
    (sPopk (dVar 2) (aCons (dVar 7) aNil)))
    sNil) (be.map itD) [e0, some (.cel μ.length), some (.cel J), some (.int q), some (.int f), e5, some (ivsD rs), e7, e8] (memF μ fo be)) N R B C Z ⟨⟩ := by
  refine s_forGo (fun xs e m => ∃ (done es : List (Iv × Int)) (e7 e8 : Option D), done ++ es = be ∧ xs = es.map itD ∧ e = [e0, some (.cel μ.length), some (.cel J), some (.int q), some (.int f), e5, some (ivsD rs), e7, e8] ∧
    m = memF μ (foA fo q f rs done) (beA q f rs done es)) ?_ ?_ _ _ _ ⟨[], be, e7, e8, rfl, rfl, rfl, by unfold foA beA; rw [List.filter_nil, List.filter_nil, List.map_nil, List.append_nil]; rfl⟩
  · rintro e m ⟨done, es, e7, e8, h1, h2, rfl, rfl⟩
    cases es with
    | cons _ _ => cases h2
    | nil =>
      rw [List.append_nil] at h1
      subst h1
      refine ⟨hg _, ?_⟩
      unfold foA beA
      rw [List.append_nil]
      exact k _ _
  · rintro x xs e m ⟨done, es, e7, e8, h1, h2, rfl, rfl⟩
    cases es with
    | nil => cases h2
    | cons e es =>
      cases h2
      refine ⟨hg _, ?_⟩
      have gs : ∀ (e9 : En) (m : List M), gSeq 2 (gsCons (gNm 7) (gsCons (gNm 8) gsNil)) (itD e) e9 m = some ((e9.set 7 (some (ivD e.1))).set 8 (some (.int e.2))) := fun _ _ => rfl
      have me : e ∈ be := by rw [← h1]; exact List.mem_append_right _ List.mem_cons_self
      have le : (done.filter (drp q f rs)).length ≤ done.length := List.length_filter_le _ _
      have lb : be.length = done.length + (es.length + 1) := by rw [← h1, List.length_append, List.length_cons]
      have fl : ((foA fo q f rs done).map blkD).length < 100000 := by
        unfold foA
        rw [List.length_map, List.length_append, List.length_map]; omega
      have i0 : ∀ m : List M, opIx m (ivD e.1) (.int 0) = some (.int e.1.1) := fun _ => rfl
      have i1 : ∀ m : List M, opIx m (ivD e.1) (.int 1) = some (opt e.1.2) := fun _ => rfl
      have nd' : ((done ++ e :: es).map (·.1)).Nodup := by rw [h1]; exact nd
      have mk := fun h => mk_blk (q := some q) (e := e) (m := memF μ (foA fo q f rs done) (beA q f rs done (e :: es))) (mem_cln hc) (hok e me h)
      rw [optS] at mk
      have me2 : e.1 ∈ (beA q f rs done (e :: es)).map (·.1) := List.mem_map.mpr ⟨e, List.mem_append_right _ List.mem_cons_self, rfl⟩
      have pk := mem_pop (μ := μ) (fo := foA fo q f rs done ++ [blkOf (some q) e]) hJ me2
      have go : ∀ (m2 : List M), m2 = memF μ (foA fo q f rs (done ++ [e])) (beA q f rs (done ++ [e]) es) → ∃ (done' es' : List (Iv × Int)) (e7 e8 : Option D), done' ++ es' = be ∧ es.map itD = es'.map itD ∧ [e0, some (.cel μ.length), some (.cel J), some (.int q), some (.int f), e5, some (ivsD rs), some (ivD e.1), some (.int e.2)] = [e0, some (.cel μ.length), some (.cel J), some (.int q), some (.int f), e5, some (ivsD rs), e7, e8] ∧
          m2 = memF μ (foA fo q f rs done') (beA q f rs done' es') :=
        fun m2 h => ⟨done ++ [e], es, _, _, by rw [List.append_assoc]; exact h1, rfl, rfl, h⟩
      have d1 := fun h => go _ (st_drop (μ := μ) (fo := fo) nd' h)
      have d2 := fun h => go _ (st_keep (μ := μ) (fo := fo) (done := done) (es := es) (e := e) (q := q) (f := f) (rs := rs) h)
      clear go
      rw [gs]
      show WS _ _ _ _ _ _ ⟨⟩
      have a0 := fun fo be => mem_at0 (μ := μ) (fo := fo) (be := be)
      have s0 := fun fo be b => mem_set0 (μ := μ) (fo := fo) (be := be) (b := b)
      have tb := fun fo be => mem_tab (μ := μ) (fo := fo) (be := be) hJ
      have sm : ∀ (a : Nat × List (List (Option Int)) × List D), (some a).isSome = true := fun _ => rfl
      have z1 := fun m => in_runs (m := m) (p := e.1) (rs := rs)
      clear me me2 le lb nd nd' hl hok k hg gs h1 hJ hc
      generalize hq : drp q f rs e = dq at *
      unfold drp at hq
      generalize beA q f rs done (e :: es) = be1 at *
      generalize foA fo q f rs done = fo1 at *
      generalize List.map itD es = xs at *
      by_cases h1 : e.1 ∈ rs
      · rw [decide_eq_true h1] at z1 hq
        by_cases h2 : f = q + 1
        · rw [decide_eq_false (fun z => z h2)] at hq
          have hq : dq = false := hq.symm
          have w := d2 hq
          clear d1 d2 mk pk h1 hq
          subst h2
          trivial
        · rw [decide_eq_true h2] at hq
          have hq : dq = true := hq.symm
          have w := d1 hq
          have mk := mk hq
          clear d1 d2 h1 hq
          trivial
      · rw [decide_eq_false h1] at z1 hq
        have hq : dq = true := hq.symm
        have w := d1 hq
        have mk := mk hq
        clear d1 d2 h1 hq
        trivial
theorem form2 {e0 e1 e3 e5 e6 e7 e8 : Option D} (hJ : J = μ.length + 1) (hg : ∀ m, g m) (hl : be.length + rs.length ≤ 90000)
    (k : ∀ e7, N [e0, e1, some (.cel J), e3, some (.int f), e5, e6, e7, e8] (memF μ fo (addAll be f rs))) :
    WS (forGo g (gNm 7) (sSetd (dVar 2) (aCons (dVar 7) (aCons (dVar 4) aNil))) (rs.map ivD) [e0, e1, some (.cel J), e3, some (.int f), e5, e6, e7, e8] (memF μ fo be)) N R B C Z ⟨⟩ := by
  refine s_forGo (fun xs e m => ∃ (be' : List (Iv × Int)) (rest : List Iv) (e7 : Option D), addAll be' f rest = addAll be f rs ∧ xs = rest.map ivD ∧ be'.length + rest.length ≤ 90000 ∧ e = [e0, e1, some (.cel J), e3, some (.int f), e5, e6, e7, e8] ∧ m = memF μ fo be') ?_ ?_ _ _ _ ⟨be, rs, e7, rfl, rfl, hl, rfl, rfl⟩
  · rintro e m ⟨be', rest, e7, h1, h2, h3, rfl, rfl⟩
    cases rest with
    | cons _ _ => cases h2
    | nil =>
      have h1 : be' = addAll be f rs := h1
      subst h1
      exact ⟨hg _, k _⟩
  · rintro x xs e m ⟨be', rest, e7, h1, h2, h3, rfl, rfl⟩
    cases rest with
    | nil => cases h2
    | cons r rest =>
      cases h2
      refine ⟨hg _, ?_⟩
      rw [List.length_cons] at h3
      have sd := mem_setd (μ := μ) (fo := fo) (be := be') (r := r) (f := f) hJ (by omega)
      have tb := mem_tab (μ := μ) (fo := fo) (be := be') hJ
      have sm : ∀ (a : Nat × List (List (Option Int)) × List D), (some a).isSome = true := fun _ => rfl
      have w : ∃ (be'' : List (Iv × Int)) (rest' : List Iv) (e7 : Option D), addAll be'' f rest' = addAll be f rs ∧ rest.map ivD = rest'.map ivD ∧ be''.length + rest'.length ≤ 90000 ∧ [e0, e1, some (.cel J), e3, some (.int f), e5, e6, some (ivD r), e8] = [e0, e1, some (.cel J), e3, some (.int f), e5, e6, e7, e8] ∧ memF μ fo (if r ∈ be'.map (·.1) then be' else be' ++ [(r, f)]) = memF μ fo be'' :=
        ⟨_, rest, _, h1, rfl, by
          split
          · omega
          · rw [List.length_append]; show _ + 1 + _ ≤ _; omega, rfl, rfl⟩
      clear h1 h3 hl k hg hJ
      generalize (if r ∈ be'.map (·.1) then be' else be' ++ [(r, f)]) = be2 at *
      show WS _ _ _ _ _ _ ⟨⟩
      trivial
end
end PG
namespace PG
open PySem PySem.Spec PyProof.Rows L2 DL
local macro_rules | `(tactic| trivial) => `(tactic| simp (config := { dsimp := false }) only [*, eq_self, DL.w_ok, DL.w_ex, DL.w_bind, DL.w_bindS, DL.o_some, DL.w_dC, DL.w_var, DL.w_op, DL.a_nil, DL.a_cons, DL.w_tup, DL.w_lst, DL.w_blt, DL.w_call, DL.w_callN, DL.w_or, DL.w_and, DL.w_not, DL.w_neg, DL.w_if, DL.w_chain, DL.t_tru, DL.t_tst, DL.t_and, DL.t_or, DL.t_not, DL.p_no, DL.p_some, DL.w_slc, DL.w_m1, DL.w_m0, DL.w_fld, DL.s_nil, DL.s_brk, DL.s_cnt, DL.s_retN, DL.s_raise, DL.s_seq, DL.s_ret, DL.s_exp, DL.s_if, DL.s_set, DL.s_new, DL.s_cel, DL.s_retC, DL.s_par, DL.s_asg, DL.e_add, DL.e_sub, DL.e_mulR, DL.e_mulL, DL.e_modS, DL.e_divS, DL.e_pow, DL.e_lt, DL.e_le, DL.e_gt, DL.e_ge, DL.e_is, DL.e_isN, DL.e_eqI, DL.e_neI, DL.e_eqS, DL.e_neS, DL.h_bl, DL.h_int, DL.h_non, DL.b_bl, DL.i_int, DL.s_str, DL.l_lst, DL.q_lst, DL.q_tup, DL.c_lst, DL.c_seq, DL.c_lis, DL.x_cel, DL.x_lst, DL.x_tup, DL.at_nn, DL.ix_in, DL.p_cel, DL.e_mulIf, DL.e_mulM, DL.t_len, DL.t_intB, DL.start, DL.s_setIx, DL.s_for, DL.i_rng, DL.i_rng2, DL.w_lc, DL.r_one, DL.s_app, DL.g_cel, DL.w_dct0, DL.w_meth, DL.isC_obj, DL.w_make, DL.w_pick, DL.pick_cons, DL.pick_nil, DL.w_own, DL.w_ne, DL.w_obS, DL.cls_obj, DL.fld_obj, DL.w_fmt, DL.w_fs, DL.w_fsNil, DL.w_fsCons, DL.w_isT, DL.w_revA, DL.s_try, DL.s_raiseI, DL.s_tryP, DL.s_endX, DL.w_isXT, DL.i_any, DL.ia_tup, DL.ia_str, DL.ia_lst, DL.ia_scr, DL.ia_cel, DL.gl_glo, DL.w_callA, DL.s_tryN, DL.s_never, DL.s_fld, DL.w_listN, DL.g_seq, DL.g_cons, DL.g_nil, DL.g_nm, DL.t_yes, DL.wipe_cons, DL.wipe_nil, DL.nn_non, DL.nn_int, DL.nn_str, DL.nn_bl, DL.nn_tup, DL.nn_lst, DL.w_fmR, DL.w_owns, DL.w_nes, DL.w_obSs, DL.w_meths, DL.w_xf, DL.i_zip, DL.w_revB, DL.s_new2, DL.w_callN2, DL.s_dct, DL.s_setd, DL.s_popk, DL.s_ext, DL.w_itT, DL.i_itT, DL.i_enum, DL.w_lock, DL.w_sortSet, DL.w_sortK, List.map_cons, List.map_nil, List.length_cons, List.length_nil, List.cons_append, List.nil_append, List.append_nil, List.drop_zero, List.drop_nil, List.drop_succ_cons, List.getElem?_cons_zero, List.getElem?_cons_succ, List.set_cons_zero, List.set_cons_succ, List.replicate_succ, List.replicate_zero, Option.join_some, Option.map_some, if_true, if_false, Bool.not_true, Bool.not_false, true_and, and_true, Nat.reduceAdd, Nat.reduceSub, Nat.reduceLeDiff, decide_true, decide_false, Bool.false_eq_true, Option.bind_some, Int.reduceToNat, List.getElem?_set_self, Int.reduceLT, Int.reduceLE, Int.reduceNeg, Int.reduceSub, Int.reduceAdd, Int.reduceMul, Int.reducePow, Nat.reduceLT, Int.reduceEq, ite_self, optN, optS, c_blk, f_top, f_left, f_bottom, f_right, PG.dfl_Block_init__, PG.dfl_first_cell, PG.dfl_is_count, PG.dfl_is_end])
def Chain : Option Int → List (Iv × List Iv) → Prop
  | _, [] => True
  | some _, b :: bs => Chain b.1.2 bs
  | none, _ :: _ => False
def keyB (b : Blk) : D := .tup [.int b.t, .int b.l]
def formL (bands : List (Iv × List Iv)) : List Blk := (formU bands).mergeSort fun a b => ltLe (keyB a) (keyB b)
def memL (μ : List M) (fo : List Blk) (be : List (Iv × Int)) : List M := μ ++ [.lst (fo.map blkD)] ++ [.lck (.t (kysO be)) (vlsO be)]
section
variable {μ m : List M} {p r : Iv} {be : List (Iv × Int)} {fo : List Blk} {J : Nat} {b : Blk} {t f : Int} {rs : List Iv} {bands : List (Iv × List Iv)} {s : FS} {l : List Blk}
theorem told_chain {R : Int → List Iv} : ∀ {bs : List (Iv × List Iv)} {q : Int}, Told R q bs → Chain (some q) bs
  | [], _, _ => ⟨⟩
  | b :: bs, q, h => by
    obtain ⟨-, -, -, -, h⟩ := h
    show Chain b.1.2 bs
    cases e : b.1.2 with
    | none => rw [e] at h; have h : bs = [] := h; subst h; exact ⟨⟩
    | some q2 => rw [e] at h; exact told_chain h
theorem fo_mono : ∀ {bs : List (Iv × List Iv)} {s : FS} {b : Blk}, b ∈ s.fo → b ∈ (bs.foldl fstep s).fo
  | [], _, _, h => h
  | c :: bs, s, b, h => fo_mono (bs := bs) (s := fstep s c) (List.mem_append_left _ h)
theorem x_first (hc : Cln μ) : G_first_cell [blkD b] μ = .ok (keyB b) μ := by
  apply eq_ok
  unfold G_first_cell
  refine wo_fn rfl ?_
  unfold D_first_cell
  trivial
  exact fr_same hc rfl ⟨rfl, rfl⟩
theorem key_ok (h : l.length ≤ 100000) : sortOk (l.map keyB) = true := by
  unfold sortOk
  rw [Bool.and_eq_true, Bool.and_eq_true]
  refine ⟨?_, ?_, ?_⟩
  · clear h
    induction l with
    | nil => rfl
    | cons b l ih => exact ih
  · rw [List.all_eq_true]
    intro x hx
    obtain ⟨a, _, rfl⟩ := List.mem_map.mp hx
    rw [Bool.and_eq_true]
    refine ⟨rfl, ?_⟩
    rw [List.all_eq_true]
    intro y hy
    obtain ⟨c, _, rfl⟩ := List.mem_map.mp hy
    with_unfolding_all rfl
  · rw [Bool.or_eq_true]
    refine .inl (List.all_eq_true.mpr fun x hx => ?_)
    obtain ⟨a, _, rfl⟩ := List.mem_map.mp hx
    rfl
theorem sortBy_blk : sortBy (l.map keyB) (l.map blkD) = ((l.mergeSort fun a b => ltLe (keyB a) (keyB b))).map blkD := by
  unfold sortBy
  have e : (l.map blkD).zip (l.map keyB) = l.map fun b => (blkD b, keyB b) := by
    induction l with
    | nil => rfl
    | cons b l ih => rw [List.map_cons, List.map_cons, List.zip_cons_cons, ih]; rfl
  have h := List.map_mergeSort (f := fun b => (blkD b, keyB b)) (r := fun a b => ltLe (keyB a) (keyB b)) (s := fun a b : D × D => ltLe a.2 b.2) (l := l) (fun a _ b _ => rfl)
  rw [e, ← h, List.map_map]
  rfl
theorem keys_blk (hc : Cln m) : KeysD G_first_cell m (l.map blkD) (l.map keyB) := by
  refine ⟨by rw [List.length_map, List.length_map], fun i d k h1 h2 => ?_⟩
  rw [List.getElem?_map] at h1 h2
  obtain ⟨b, e, rfl⟩ := Option.map_eq_some_iff.mp h1
  obtain ⟨c, e2, rfl⟩ := Option.map_eq_some_iff.mp h2
  rw [e] at e2; cases e2
  exact x_first hc
theorem mem_lt (hJ : J = μ.length + 1) : lckT (memL μ fo be) (.cel J) = some (be.map itD, fun _ : List M => True) := by
  have e : (memL μ fo be)[J]? = some (.lck (.t (kysO be)) (vlsO be)) := by
    unfold memL
    rw [hJ, List.append_assoc, List.getElem?_append_right (by omega), show μ.length + 1 - μ.length = 1 from by omega]; rfl
  show (match (memL μ fo be)[J]? with | some (.lck (.t ks) l) => some (itemsD ks l, fun _ : List M => True) | _ => none) = _
  rw [e]
  show some (itemsD (kysO be) (vlsO be), fun _ : List M => True) = _
  rw [items_it]
theorem mem_ul (hJ : J = μ.length + 1) : unlO J (memL μ fo be) = some (memF μ fo be) := by
  have e : (memL μ fo be)[J]? = some (.lck (.t (kysO be)) (vlsO be)) := by
    unfold memL
    rw [hJ, List.append_assoc, List.getElem?_append_right (by omega), show μ.length + 1 - μ.length = 1 from by omega]; rfl
  unfold unlO
  rw [e]
  show some ((memL μ fo be).set J (.dcT (kysO be) (vlsO be))) = _
  congr 1
  unfold memL memF
  rw [hJ, List.append_assoc, List.append_assoc, List.set_append_right _ _ (by omega), show μ.length + 1 - μ.length = 1 from by omega]; rfl
theorem meml_cln (hc : Cln μ) : Cln (memL μ fo be) := (hc.snoc (show cleanM 0 (.lst (fo.map blkD)) = true from clean_blks)).snoc (show cleanM 0 (.lck (.t (kysO be)) (vlsO be)) = true from vls_clean)
theorem mem_setL {l : List Blk} : (memF μ fo be).set μ.length (.lst (fo.map blkD ++ l.map blkD)) = memF μ (fo ++ l) be := by
  unfold memF
  rw [List.append_assoc, List.set_append_right _ _ (Nat.le_refl _), Nat.sub_self, List.append_assoc, List.map_append]; rfl
theorem mem_take : (memF μ fo be).take μ.length = μ := by
  unfold memF
  rw [List.append_assoc, List.take_left]
/-- the last part: found.extend(..), sorted(..) -/
theorem form3 {N : En → List M → Prop} {R : D → List M → Prop} {B C : En → List M → Prop} {Z : Str → List Str → List D → En → List M → Prop} {e0 e4 e5 e6 e7 e8 : Option D} {q : Option Int} (hJ : J = μ.length + 1) (hc : Cln μ) (hl : fo.length + be.length ≤ 90000) (hok : ∀ e ∈ be, (blkOf q e).Ok)
    (k : R (blksD ((fo ++ be.map (blkOf q)).mergeSort fun a b => ltLe (keyB a) (keyB b))) (memF μ (fo ++ be.map (blkOf q)) be)) :
    WS (sSeq (sExt (dVar 1) (dLock (lkVar 2) (dLcF (iItT (dVar 2)) (gSeq 2 (gsCons (gNm 7) (gsCons (gNm 8) gsNil))) tYes' (dMake "Block" 5 G_Block_init__ [] (aCons (dVar 8) (aCons (dOp opIx (dVar 7) (dC (.int 0))) (aCons (dVar 3) (aCons (dOp opIx (dVar 7) (dC (.int 1))) aNil))))) [7, 8])))
    (sRet (dSortK G_first_cell (dVar 1))) [e0, some (.cel μ.length), some (.cel J), some (opt q), e4, e5, e6, e7, e8] (memF μ fo be)) N R B C Z ⟨⟩ := by
  have a0 := mem_at0 (μ := μ) (fo := fo) (be := be)
  have lk : lkOf (lkVar 2) [e0, some (.cel μ.length), some (.cel J), some (opt q), e4, e5, e6, e7, e8] (memF μ fo be) = some (J, .t (kysO be), vlsO be) := by
    show ((memF μ fo be)[J]?).bind _ = _
    rw [mem_at1 hJ]; rfl
  have ms : (memF μ fo be).set J (.lck (.t (kysO be)) (vlsO be)) = memL μ fo be := mem_set1 hJ
  have lt := mem_lt (μ := μ) (fo := fo) (be := be) hJ
  have ul := mem_ul (μ := μ) (fo := fo) (be := be) hJ
  have lc : lcGo (fun _ => True) (gSeq 2 (gsCons (gNm 7) (gsCons (gNm 8) gsNil))) tYes' (dMake "Block" 5 G_Block_init__ [] (aCons (dVar 8) (aCons (dOp opIx (dVar 7) (dC (.int 0))) (aCons (dVar 3) (aCons (dOp opIx (dVar 7) (dC (.int 1))) aNil)))))
      [e0, some (.cel μ.length), some (.cel J), some (opt q), e4, e5, e6, none, none] (be.map itD) (memL μ fo be) [] = .ok ((be.map (blkOf q)).map blkD) (memL μ fo be) := by
    have unT : D → Iv × Int := fun d => match d with
      | .tup [p, .int t] => (unI p, t)
      | _ => ((0, none), 0)
    rw [lc_map (fun d => blkD (blkOf q (match d with | .tup [p, .int t] => (unI p, t) | _ => ((0, none), 0)))) ⟨⟩ (be.map itD) (fun x hx => by
      obtain ⟨e, me, rfl⟩ := List.mem_map.mp hx
      refine ⟨_, rfl, ?_⟩
      show _ = Out.ok (blkD (blkOf q (unI (ivD e.1), e.2))) _
      rw [unI_iv]
      have mk := mk_blk (q := q) (e := e) (m := memL μ fo be) (meml_cln hc) (hok e me)
      have i0 : ∀ m : List M, opIx m (ivD e.1) (.int 0) = some (.int e.1.1) := fun _ => rfl
      have i1 : ∀ m : List M, opIx m (ivD e.1) (.int 1) = some (opt e.1.2) := fun _ => rfl
      clear lt ul ms lk a0 hok k
      apply eq_ok
      show WO (dMake "Block" 5 G_Block_init__ [] (aCons (dVar 8) (aCons (dOp opIx (dVar 7) (dC (.int 0))) (aCons (dVar 3) (aCons (dOp opIx (dVar 7) (dC (.int 1))) aNil)))) [e0, some (.cel μ.length), some (.cel J), some (opt q), e4, e5, e6, some (ivD e.1), some (.int e.2)] (memL μ fo be)) _ _ ⟨⟩
      trivial
      all_goals rfl) (by rw [List.length_map]; omega)]
    rw [List.map_map, List.map_map]
    congr 1
    apply List.map_congr_left
    intro e _
    show blkD (blkOf q (unI (ivD e.1), e.2)) = _
    rw [unI_iv]; rfl
  have sL := mem_setL (μ := μ) (fo := fo) (be := be) (l := be.map (blkOf q))
  have l1 : (fo.map blkD).length + ((be.map (blkOf q)).map blkD).length ≤ 100000 := by
    rw [List.length_map, List.length_map, List.length_map]; omega
  have at2 := mem_at0 (μ := μ) (fo := fo ++ be.map (blkOf q)) (be := be)
  have ls : lstOf (memF μ (fo ++ be.map (blkOf q)) be) (.cel μ.length) = some ((fo ++ be.map (blkOf q)).map blkD) := by
    show cellL (memF μ (fo ++ be.map (blkOf q)) be)[μ.length]? = _
    rw [at2]; rfl
  have fin : ∃ ks, (KeysD G_first_cell (memF μ (fo ++ be.map (blkOf q)) be) ((fo ++ be.map (blkOf q)).map blkD) ks ∧ sortOk ks = true ∧ ((fo ++ be.map (blkOf q)).map blkD).length ≤ 100000) ∧ R (.lst (sortBy ks ((fo ++ be.map (blkOf q)).map blkD))) (memF μ (fo ++ be.map (blkOf q)) be) := by
    refine ⟨_, ⟨keys_blk (mem_cln hc), key_ok (by rw [List.length_append, List.length_map]; omega), by rw [List.length_map, List.length_append, List.length_map]; omega⟩, ?_⟩
    rw [sortBy_blk]
    exact k
  clear hok k hl hJ hc
  trivial
end
end PG
namespace PG
open PySem PySem.Spec PyProof.Rows L2 DL
local macro_rules | `(tactic| trivial) => `(tactic| simp (config := { dsimp := false }) only [*, eq_self, DL.w_ok, DL.w_ex, DL.w_bind, DL.w_bindS, DL.o_some, DL.w_dC, DL.w_var, DL.w_op, DL.a_nil, DL.a_cons, DL.w_tup, DL.w_lst, DL.w_blt, DL.w_call, DL.w_callN, DL.w_or, DL.w_and, DL.w_not, DL.w_neg, DL.w_if, DL.w_chain, DL.t_tru, DL.t_tst, DL.t_and, DL.t_or, DL.t_not, DL.p_no, DL.p_some, DL.w_slc, DL.w_m1, DL.w_m0, DL.w_fld, DL.s_nil, DL.s_brk, DL.s_cnt, DL.s_retN, DL.s_raise, DL.s_seq, DL.s_ret, DL.s_exp, DL.s_if, DL.s_set, DL.s_new, DL.s_cel, DL.s_retC, DL.s_par, DL.s_asg, DL.e_add, DL.e_sub, DL.e_mulR, DL.e_mulL, DL.e_modS, DL.e_divS, DL.e_pow, DL.e_lt, DL.e_le, DL.e_gt, DL.e_ge, DL.e_is, DL.e_isN, DL.e_eqI, DL.e_neI, DL.e_eqS, DL.e_neS, DL.h_bl, DL.h_int, DL.h_non, DL.b_bl, DL.i_int, DL.s_str, DL.l_lst, DL.q_lst, DL.q_tup, DL.c_lst, DL.c_seq, DL.c_lis, DL.x_cel, DL.x_lst, DL.x_tup, DL.at_nn, DL.ix_in, DL.p_cel, DL.e_mulIf, DL.e_mulM, DL.t_len, DL.t_intB, DL.start, DL.s_setIx, DL.s_for, DL.i_rng, DL.i_rng2, DL.w_lc, DL.r_one, DL.s_app, DL.g_cel, DL.w_dct0, DL.w_meth, DL.isC_obj, DL.w_make, DL.w_pick, DL.pick_cons, DL.pick_nil, DL.w_own, DL.w_ne, DL.w_obS, DL.cls_obj, DL.fld_obj, DL.w_fmt, DL.w_fs, DL.w_fsNil, DL.w_fsCons, DL.w_isT, DL.w_revA, DL.s_try, DL.s_raiseI, DL.s_tryP, DL.s_endX, DL.w_isXT, DL.i_any, DL.ia_tup, DL.ia_str, DL.ia_lst, DL.ia_scr, DL.ia_cel, DL.gl_glo, DL.w_callA, DL.s_tryN, DL.s_never, DL.s_fld, DL.w_listN, DL.g_seq, DL.g_cons, DL.g_nil, DL.g_nm, DL.t_yes, DL.wipe_cons, DL.wipe_nil, DL.nn_non, DL.nn_int, DL.nn_str, DL.nn_bl, DL.nn_tup, DL.nn_lst, DL.w_fmR, DL.w_owns, DL.w_nes, DL.w_obSs, DL.w_meths, DL.w_xf, DL.i_zip, DL.w_revB, DL.s_new2, DL.w_callN2, DL.s_dct, DL.s_setd, DL.s_popk, DL.s_ext, DL.w_itT, DL.i_itT, DL.i_enum, DL.w_lock, DL.w_sortSet, DL.w_sortK, List.map_cons, List.map_nil, List.length_cons, List.length_nil, List.cons_append, List.nil_append, List.append_nil, List.drop_zero, List.drop_nil, List.drop_succ_cons, List.getElem?_cons_zero, List.getElem?_cons_succ, List.set_cons_zero, List.set_cons_succ, List.replicate_succ, List.replicate_zero, Option.join_some, Option.map_some, if_true, if_false, Bool.not_true, Bool.not_false, true_and, and_true, Nat.reduceAdd, Nat.reduceSub, Nat.reduceLeDiff, decide_true, decide_false, Bool.false_eq_true, Option.bind_some, Int.reduceToNat, List.getElem?_set_self, Int.reduceLT, Int.reduceLE, Int.reduceNeg, Int.reduceSub, Int.reduceAdd, Int.reduceMul, Int.reducePow, Nat.reduceLT, Int.reduceEq, ite_self, optN, optS, c_blk, f_top, f_left, f_bottom, f_right, PG.dfl_Block_init__, PG.dfl_first_cell, PG.dfl_form_of, PG.dfl_is_count, PG.dfl_is_end])
section
variable {μ m : List M} {bands : List (Iv × List Iv)}
theorem part_len {α : Type} (P : α → Bool) : ∀ l : List α, (l.filter P).length + (l.filter fun e => !P e).length = l.length
  | [] => rfl
  | x :: l => by
    have ih := part_len P l
    rw [List.filter_cons, List.filter_cons]
    cases P x with
    | true => rw [if_pos rfl, if_neg (by decide), List.length_cons, List.length_cons]; omega
    | false => rw [if_neg (by decide : ¬ (false = true)), if_pos (by rfl : (!false) = true), List.length_cons, List.length_cons]; omega
theorem x_form (hc : Cln μ) (hch : Chain (some 0) bands) (hok : AllOk (formU bands)) (hs : (bands.map fun b => b.2.length).sum ≤ 90000) : G_form_of [bandsD bands] μ = .ok (blksD (formL bands)) μ := by
  apply eq_ok
  unfold G_form_of
  refine wo_fn rfl ?_
  unfold D_form_of
  obtain ⟨J, hJ⟩ : ∃ J, J = μ.length + 1 := ⟨_, rfl⟩
  have hJ2 : (μ ++ [M.lst []]).length = J := by rw [List.length_append, hJ]; rfl
  have ib : itAny (memF μ [] []) (bandsD bands) = some (bands.map bandD, fun _ => True) := ia_lst
  have m0 : μ ++ [.lst []] ++ [.dcT [] []] = memF μ [] [] := rfl
  have main : ∀ (e4 e5 e6 e7 e8 : Option D), WS (forGo (fun _ => True) (gSeq 3 (gsCons (gNm 4) (gsCons (gNm 5) (gsCons (gNm 6) gsNil))))
    (sSeq (dFor (iAny (dItT (dVar 2))) (gSeq 2 (gsCons (gNm 7) (gsCons (gNm 8) gsNil)))
    (sIf (tOr2 (dTst (dOp (opIn3 true) (dVar 7) (dVar 6))) (dTst (dOp opNe (dVar 4) (dOp opAdd (dVar 3) (dC (.int 1))))))
    (sSeq (sApp (dVar 1) (dMake "Block" 5 G_Block_init__ [] (aCons (dVar 8) (aCons (dOp opIx (dVar 7) (dC (.int 0))) (aCons (dVar 3) (aCons (dOp opIx (dVar 7) (dC (.int 1))) aNil))))))
    (sPopk (dVar 2) (aCons (dVar 7) aNil)))
    sNil))
    (sSeq (dFor (iAny (dVar 6)) (gNm 7)
    (sSetd (dVar 2) (aCons (dVar 7) (aCons (dVar 4) aNil))))
    (sAsg (dVar 5) (gNm 3)))) (bands.map bandD) [some (bandsD bands), some (.cel μ.length), some (.cel J), some (.int 0), e4, e5, e6, e7, e8] (memF μ [] []))
    (fun e m => WS (sSeq (sExt (dVar 1) (dLock (lkVar 2) (dLcF (iItT (dVar 2)) (gSeq 2 (gsCons (gNm 7) (gsCons (gNm 8) gsNil))) tYes' (dMake "Block" 5 G_Block_init__ [] (aCons (dVar 8) (aCons (dOp opIx (dVar 7) (dC (.int 0))) (aCons (dVar 3) (aCons (dOp opIx (dVar 7) (dC (.int 1))) aNil))))) [7, 8])))
      (sRet (dSortK G_first_cell (dVar 1))) e m) (fun x m' => FR μ.length m' .non fun x m' => x = blksD (formL bands) ∧ m' = μ) (fun d m' => FR μ.length m' d fun x m' => x = blksD (formL bands) ∧ m' = μ) (fun x x_1 => False) (fun x x_1 => False) (fun c ns l x m' => cleans 0 l = true ∧ Cln m' ∧ xNo c ns l (List.take μ.length m')) ⟨⟩)
    (fun d m' => FR μ.length m' d fun x m' => x = blksD (formL bands) ∧ m' = μ) (fun x x_1 => False) (fun x x_1 => False) (fun c ns l x m' => cleans 0 l = true ∧ Cln m' ∧ xNo c ns l (List.take μ.length m')) ⟨⟩ := by
    intro e4 e5 e6 e7 e8
    refine s_forGo (fun xs e m => ∃ (bs : List (Iv × List Iv)) (s : FS) (e4 e5 e6 e7 e8 : Option D), xs = bs.map bandD ∧ bs.foldl fstep s = bands.foldl fstep ⟨[], [], some 0⟩ ∧ Chain s.q bs ∧ (s.be.map (·.1)).Nodup ∧ s.fo.length + s.be.length + (bs.map fun b => b.2.length).sum ≤ 90000 ∧
      e = [some (bandsD bands), some (.cel μ.length), some (.cel J), some (opt s.q), e4, e5, e6, e7, e8] ∧ m = memF μ s.fo s.be) ?_ ?_ _ _ _ ⟨bands, ⟨[], [], some 0⟩, e4, e5, e6, e7, e8, rfl, rfl, hch, List.nodup_nil, by show 0 + 0 + _ ≤ _; omega, rfl, rfl⟩
    · rintro e m ⟨bs, s, e4, e5, e6, e7, e8, h1, h2, h3, h4, h5, rfl, rfl⟩
      refine ⟨⟨⟩, ?_⟩
      cases bs with
      | cons _ _ => cases h1
      | nil =>
        have h2 : s = bands.foldl fstep ⟨[], [], some 0⟩ := h2
        have e1 : s.fo ++ s.be.map (blkOf s.q) = formU bands := by rw [h2]; rfl
        refine form3 hJ hc (by omega) (fun e me => hok _ (by rw [← e1]; exact List.mem_append_right _ (List.mem_map.mpr ⟨e, me, rfl⟩))) ?_
        rw [e1]
        exact ⟨clean_blks, mem_cln hc, rfl, mem_take⟩
    · rintro x xs e m ⟨bs, s, e4, e5, e6, e7, e8, h1, h2, h3, h4, h5, rfl, rfl⟩
      refine ⟨⟨⟩, ?_⟩
      cases bs with
      | nil => cases h1
      | cons b bs =>
        cases h1
        obtain ⟨fo, be, q⟩ := s
        dsimp only at h2 h3 h4 h5 ⊢
        cases q with
        | none => exact h3.elim
        | some q =>
          have h3 : Chain b.1.2 bs := h3
          rw [List.map_cons, List.sum_cons] at h5
          have gs : ∀ (e9 : En) (m : List M), gSeq 3 (gsCons (gNm 4) (gsCons (gNm 5) (gsCons (gNm 6) gsNil))) (bandD b) e9 m = some (((e9.set 4 (some (.int b.1.1))).set 5 (some (opt b.1.2))).set 6 (some (ivsD b.2))) := fun _ _ => rfl
          rw [gs]
          show WS _ _ _ _ _ _ ⟨⟩
          have it := mem_it (μ := μ) (fo := fo) (be := be) hJ (by omega)
          have ia : ∀ (m : List M) (l : List Iv), itAny m (ivsD l) = some (l.map ivD, fun _ => True) := fun m l => ia_lst
          have e2 : fstep ⟨fo, be, some q⟩ b = ⟨fo ++ (be.filter (drp q b.1.1 b.2)).map (blkOf (some q)), addAll (be.filter fun e => !drp q b.1.1 b.2 e) b.1.1 b.2, b.1.2⟩ := rfl
          have h2 : bs.foldl fstep ⟨fo ++ (be.filter (drp q b.1.1 b.2)).map (blkOf (some q)), addAll (be.filter fun e => !drp q b.1.1 b.2 e) b.1.1 b.2, b.1.2⟩ = bands.foldl fstep ⟨[], [], some 0⟩ := h2
          have hk1 : ∀ e ∈ be, drp q b.1.1 b.2 e = true → (blkOf (some q) e).Ok := fun e me hd => by
            refine hok _ (List.mem_append_left _ ?_)
            rw [← h2]
            exact fo_mono (List.mem_append_right _ (List.mem_map.mpr ⟨e, List.mem_filter.mpr ⟨me, hd⟩, rfl⟩))
          have nl := part_len (drp q b.1.1 b.2) be
          have f1 := fun N R B C Z e0 e5 e7 e8 k => form1 (g := fun _ => True) (N := N) (R := R) (B := B) (C := C) (Z := Z) (e0 := e0) (e5 := e5) (e7 := e7) (e8 := e8) (rs := b.2) (f := b.1.1) (q := q) (fo := fo) (be := be) hJ hc (fun _ => ⟨⟩) h4 (by omega) hk1 k
          have nd : ((be.filter fun e => !drp q b.1.1 b.2 e).map (·.1)).Nodup := (List.Sublist.map _ (List.filter_sublist)).nodup h4
          have al := addAll_len (f := b.1.1) (rs := b.2) (be := be.filter fun e => !drp q b.1.1 b.2 e)
          have go : ∀ e4 e5 e6 e7 e8, ∃ (bs' : List (Iv × List Iv)) (s : FS) (e4' e5' e6' e7' e8' : Option D), bs.map bandD = bs'.map bandD ∧ bs'.foldl fstep s = bands.foldl fstep ⟨[], [], some 0⟩ ∧ Chain s.q bs' ∧ (s.be.map (·.1)).Nodup ∧ s.fo.length + s.be.length + (bs'.map fun b => b.2.length).sum ≤ 90000 ∧
              [some (bandsD bands), some (.cel μ.length), some (.cel J), some (opt b.1.2), e4, e5, e6, e7, e8] = [some (bandsD bands), some (.cel μ.length), some (.cel J), some (opt s.q), e4', e5', e6', e7', e8'] ∧
              memF μ (fo ++ (be.filter (drp q b.1.1 b.2)).map (blkOf (some q))) (addAll (be.filter fun e => !drp q b.1.1 b.2 e) b.1.1 b.2) = memF μ s.fo s.be := fun e4 e5 e6 e7 e8 =>
            ⟨bs, _, e4, e5, e6, e7, e8, rfl, h2, h3, addAll_nodup nd, by
              show (fo ++ (be.filter (drp q b.1.1 b.2)).map (blkOf (some q))).length + (addAll (be.filter fun e => !drp q b.1.1 b.2 e) b.1.1 b.2).length + _ ≤ _
              rw [List.length_append, List.length_map]; omega, rfl, rfl⟩
          have hl2 : (be.filter fun e => !drp q b.1.1 b.2 e).length + b.2.length ≤ 90000 := by omega
          have nd0 := h4
          have hl0 : fo.length + be.length ≤ 90000 := by omega
          have hk1' := hk1
          have hc' := hc
          have hl2' := hl2
          have hJ' : id (J = μ.length + 1) := hJ
          clear h2 h3 h4 h5 hk1 nl nd al e2 hs hch hok m0 ib hJ2 f1 gs hc hJ hl2
          trivial
          refine form1 hJ' hc' (fun _ => ⟨⟩) nd0 hl0 hk1' fun e7 e8 => ?_
          trivial
          refine form2 hJ' (fun _ => ⟨⟩) hl2' fun e7 => ?_
          trivial
  have main := main none none none none none
  clear hch hok hs hc
  subst hJ
  trivial
end
end PG
namespace PG
open PySem PySem.Spec PyProof.Rows L2 DL
def areaD (l : List Blk) : D := .obj "Area" ["form"] [blksD l]
def areaOf (bs : List Blk) : List Blk := formL (bandsBy or bs [])
section
variable {μ m : List M} {bs F : List Blk} {i j : Int} {d : D}
theorem is_ahas : isC "Area" "has" μ (areaD F) = True := eq_true ⟨rfl, by with_unfolding_all rfl⟩
theorem c_area : clsAt μ (areaD F) = some ("Area" : Str) := rfl
theorem f_form : fldAt μ "form" (areaD F) = some (blksD F) := by with_unfolding_all rfl
theorem clean_area {k : Nat} : clean k (areaD F) = true := by
  show (cleans k (F.map blkD) && true) = true
  rw [clean_blks]; rfl
end
local macro_rules | `(tactic| trivial) => `(tactic| simp (config := { dsimp := false }) only [*, eq_self, DL.w_ok, DL.w_ex, DL.w_bind, DL.w_bindS, DL.o_some, DL.w_dC, DL.w_var, DL.w_op, DL.a_nil, DL.a_cons, DL.w_tup, DL.w_lst, DL.w_blt, DL.w_call, DL.w_callN, DL.w_or, DL.w_and, DL.w_not, DL.w_neg, DL.w_if, DL.w_chain, DL.t_tru, DL.t_tst, DL.t_and, DL.t_or, DL.t_not, DL.p_no, DL.p_some, DL.w_slc, DL.w_m1, DL.w_m0, DL.w_fld, DL.s_nil, DL.s_brk, DL.s_cnt, DL.s_retN, DL.s_raise, DL.s_seq, DL.s_ret, DL.s_exp, DL.s_if, DL.s_set, DL.s_new, DL.s_cel, DL.s_retC, DL.s_par, DL.s_asg, DL.e_add, DL.e_sub, DL.e_mulR, DL.e_mulL, DL.e_modS, DL.e_divS, DL.e_pow, DL.e_lt, DL.e_le, DL.e_gt, DL.e_ge, DL.e_is, DL.e_isN, DL.e_eqI, DL.e_neI, DL.e_eqS, DL.e_neS, DL.h_bl, DL.h_int, DL.h_non, DL.b_bl, DL.i_int, DL.s_str, DL.l_lst, DL.q_lst, DL.q_tup, DL.c_lst, DL.c_seq, DL.c_lis, DL.x_cel, DL.x_lst, DL.x_tup, DL.at_nn, DL.ix_in, DL.p_cel, DL.e_mulIf, DL.e_mulM, DL.t_len, DL.t_intB, DL.start, DL.s_setIx, DL.s_for, DL.i_rng, DL.i_rng2, DL.w_lc, DL.r_one, DL.s_app, DL.g_cel, DL.w_dct0, DL.w_meth, DL.isC_obj, DL.w_make, DL.w_pick, DL.pick_cons, DL.pick_nil, DL.w_own, DL.w_ne, DL.w_obS, DL.cls_obj, DL.fld_obj, DL.w_fmt, DL.w_fs, DL.w_fsNil, DL.w_fsCons, DL.w_isT, DL.w_revA, DL.s_try, DL.s_raiseI, DL.s_tryP, DL.s_endX, DL.w_isXT, DL.i_any, DL.ia_tup, DL.ia_str, DL.ia_lst, DL.ia_scr, DL.ia_cel, DL.gl_glo, DL.w_callA, DL.s_tryN, DL.s_never, DL.s_fld, DL.w_listN, DL.g_seq, DL.g_cons, DL.g_nil, DL.g_nm, DL.t_yes, DL.wipe_cons, DL.wipe_nil, DL.nn_non, DL.nn_int, DL.nn_str, DL.nn_bl, DL.nn_tup, DL.nn_lst, DL.w_fmR, DL.w_owns, DL.w_nes, DL.w_obSs, DL.w_meths, DL.w_xf, DL.i_zip, DL.w_revB, DL.s_new2, DL.w_callN2, DL.s_dct, DL.s_setd, DL.s_popk, DL.s_ext, DL.w_itT, DL.i_itT, DL.i_enum, DL.w_lock, DL.w_sortSet, DL.w_sortK, List.map_cons, List.map_nil, List.length_cons, List.length_nil, List.cons_append, List.nil_append, List.append_nil, List.drop_zero, List.drop_nil, List.drop_succ_cons, List.getElem?_cons_zero, List.getElem?_cons_succ, List.set_cons_zero, List.set_cons_succ, List.replicate_succ, List.replicate_zero, Option.join_some, Option.map_some, if_true, if_false, Bool.not_true, Bool.not_false, true_and, and_true, Nat.reduceAdd, Nat.reduceSub, Nat.reduceLeDiff, decide_true, decide_false, Bool.false_eq_true, Option.bind_some, Int.reduceToNat, List.getElem?_set_self, Int.reduceLT, Int.reduceLE, Int.reduceNeg, Int.reduceSub, Int.reduceAdd, Int.reduceMul, Int.reducePow, Nat.reduceLT, Int.reduceEq, ite_self, c_blk, is_has, f_form, c_area, isNn, PG.dfl_Area_has, PG.dfl_Area_init__, PG.dfl_Block_has, PG.dfl_Block_init__, PG.dfl_bands_by, PG.dfl_checked_blocks, PG.dfl_checked_cell, PG.dfl_either, PG.dfl_first_cell, PG.dfl_form_of])
section
variable {μ m : List M} {bs F : List Blk} {i j : Int} {d : D}
theorem x_chk (hc : Cln μ) (hl : bs.length ≤ 50000) : G_checked_blocks [blksD bs] μ = .ok .non μ := by
  apply eq_ok
  unfold G_checked_blocks
  refine wo_fn rfl ?_
  unfold D_checked_blocks
  have ib : ∀ (m : List M) (l : List Blk), itAny m (blksD l) = some (l.map blkD, fun _ => True) := fun m l => ia_lst
  have e1 : bIsU (.inl "list") μ [blksD bs, .ty "list"] = some (.bl true) := isU_lst rfl
  have c1 : lcGo (fun _ => True) (gNm 1) tYes' (dBlt (bIsU (.inr "Block")) (aCons (dVar 1) (aCons (dC (.glo "Block")) aNil))) [some (blksD bs), none] (bs.map blkD) μ [] = .ok ((bs.map blkD).map fun _ => .bl true) μ := lc_map (fun _ => .bl true) ⟨⟩ (bs.map blkD) (fun x hx => by
    obtain ⟨b, m, rfl⟩ := List.mem_map.mp hx
    refine ⟨_, g_nm, ?_⟩
    have e2 := isBlk (μ := μ) (b := b)
    apply eq_ok
    show WO (dBlt (bIsU (.inr "Block")) (aCons (dVar 1) (aCons (dC (.glo "Block")) aNil)) [some (blksD bs), some (blkD b)] μ) _ _ ⟨⟩
    trivial
    all_goals rfl) (by rw [List.length_map]; omega)
  have a1 : bAll μ [.lst ((bs.map blkD).map fun _ => .bl true)] = some (.bl true) := by
    have := all_map (m := μ) (f := fun _ => true) (l := bs.map blkD)
    rw [this]
    congr 2
    exact List.all_eq_true.mpr fun _ _ => rfl
  clear hl
  trivial
  exact fr_same hc rfl ⟨rfl, rfl⟩
theorem runs_sum (n : Nat) (kp : Bool → Bool → Bool) {R : Int → List Iv} (h : ∀ i, (R i).length ≤ n) : ∀ ps : List Iv, ((bandsOn R ps).map fun b => b.2.length).sum ≤ ps.length * n
  | [] => Nat.zero_le _
  | p :: ps => by
    have ih := runs_sum n kp h ps
    unfold bandsOn
    rw [List.filterMap_cons]
    unfold bandsOn at ih
    split
    · rename_i e
      rw [List.length_cons, Nat.succ_mul]
      omega
    · rename_i b e
      split at e
      · cases e
      · cases e
        rw [List.map_cons, List.sum_cons, List.length_cons, Nat.succ_mul]
        have := h p.1
        show (R p.1).length + _ ≤ _
        omega
theorem bands_sum {bs cs : List Blk} {kp : Bool → Bool → Bool} (hl : bs.length + cs.length ≤ 140) : ((bandsBy kp bs cs).map fun b => b.2.length).sum ≤ 90000 := by
  have h1 : ∀ i, (rowR kp bs cs i).length ≤ 280 := fun i => by
    have := runs_len (kp := kp) (one := colsAt bs i) (other := colsAt cs i)
    have := cols_len (bs := bs) (i := i)
    have := cols_len (bs := cs) (i := i)
    unfold rowR
    omega
  have h2 := runs_sum 280 kp h1 (spans (usort (cutsOf ((bs ++ cs).map rowIv))))
  have h3 : (spans (usort (cutsOf ((bs ++ cs).map rowIv)))).length ≤ 280 := by
    rw [spans_len]
    refine Nat.le_trans usort_len (Nat.le_trans cuts_len ?_)
    rw [List.length_map, List.length_append]; omega
  refine Nat.le_trans h2 (Nat.le_trans (Nat.mul_le_mul_right 280 h3) (by decide))
theorem area_has (h1 : AllOk bs) : (areaOf bs).any (hasB · i j) = bs.any (hasB · i j) := by
  have h := form_has (kp := or) (bs := bs) (cs := []) rfl h1 (fun b m => nomatch m) i j
  rw [List.any_nil, Bool.or_false] at h
  rw [← h]
  unfold areaOf formL
  exact (List.mergeSort_perm _ _).any_eq
theorem area_len (hl : bs.length ≤ 140) : (areaOf bs).length ≤ 90000 := by
  unfold areaOf formL
  rw [List.length_mergeSort]
  have h := form_len (bandsBy or bs []) ⟨[], [], some 0⟩
  have h2 := bands_sum (kp := or) (bs := bs) (cs := []) (by show _ + 0 ≤ _; omega)
  unfold formU
  rw [List.length_append, List.length_map]
  refine Nat.le_trans h ?_
  show 0 + 0 + _ ≤ _
  omega
theorem x_both {cs : List Blk} {kp : Bool → Bool → Bool} (hc : Cln μ) (h0 : kp false false = false) (h1 : AllOk bs) (h2 : AllOk cs) (hl : bs.length + cs.length ≤ 140) : G_form_of [bandsD (bandsBy kp bs cs)] μ = .ok (blksD (formL (bandsBy kp bs cs))) μ :=
  x_form hc (told_chain (bands_told h1 h2).2) (form_ok h0 h1 h2) (bands_sum hl)
theorem x_area (hc : Cln μ) (h1 : AllOk bs) (hl : bs.length ≤ 140) : makeD "Area" 2 G_Area_init__ [blksD bs] μ = .ok (areaD (areaOf bs)) μ := by
  have hc2 : Cln (μ ++ [M.obj "Area" [] []]) := hc.snoc rfl
  refine makeD_ok hc rfl (show cleans 0 [blksD (areaOf bs)] = true from by show (cleans 0 (List.map blkD _) && true) = true; rw [clean_blks]; rfl) ?_
  apply eq_ok
  unfold G_Area_init__
  refine wo_fn rfl ?_
  unfold D_Area_init__
  have hkE : ∀ m a b, Cln m → G_either [.bl a, .bl b] m = .ok (.bl (a || b)) m := fun m a b hc => by
    apply eq_ok
    unfold G_either
    refine wo_fn rfl ?_
    unfold D_either
    cases a <;> (trivial; exact fr_same hc rfl ⟨rfl, rfl⟩)
  have e1 := x_chk (bs := bs) hc2 (by omega)
  have e2 := x_bands (μ := μ ++ [M.obj "Area" [] []]) (g := "either") (G := G_either) (kp := or) (bs := bs) (cs := []) (by with_unfolding_all rfl) hkE hc2 (by show _ + 0 ≤ _; omega)
  have e3 := x_both (μ := μ ++ [M.obj "Area" [] []]) (kp := or) (bs := bs) (cs := []) hc2 rfl h1 (fun b m => nomatch m) (by show _ + 0 ≤ _; omega)
  have e4 : blksD [] = .lst [] := rfl
  rw [e4] at e2
  have e5 : isNn (blksD bs) = false := rfl
  have f1 : celO (μ ++ [M.obj "Area" [] []]) (.cel μ.length) = some (μ.length, ("Area" : Str), ([] : List Str), ([] : List D)) := co_cel List.getElem?_concat_length
  have st : ∀ {a b : M}, (μ ++ [a]).set μ.length b = μ ++ [b] := fun {a b} => by rw [List.set_append_right _ _ (Nat.le_refl _), Nat.sub_self]; rfl
  have p1 : putD "form" (blksD (areaOf bs)) [] [] = ((["form"] : List Str), ([blksD (areaOf bs)] : List D)) := rfl
  have e6 : formL (bandsBy or bs []) = areaOf bs := rfl
  rw [e6] at e3
  clear e4 e6 hkE
  trivial
  refine ⟨rfl, hc.snoc (show (cleans 0 [blksD (areaOf bs)]) = true from by show (cleans 0 (List.map blkD _) && true) = true; rw [clean_blks]; rfl), rfl, ?_⟩
  rw [List.take_of_length_le (by rw [List.length_append, List.length_append]; exact Nat.le_refl _)]
theorem x_ahas (hc : Cln μ) (hi : 1 ≤ i) (hj : 1 ≤ j) (hl : F.length ≤ 100000) : G_Area_has [areaD F, .tup [.int i, .int j]] μ = .ok (.bl (F.any (hasB · i j))) μ := by
  apply eq_ok
  unfold G_Area_has
  refine wo_fn rfl ?_
  unfold D_Area_has
  have e1 := x_checked (d := .tup [.int i, .int j]) hc rfl
  have e2 : cellD (.tup [.int i, .int j]) = true := by
    show (true && (decide (1 ≤ i) && (decide (1 ≤ j) && true))) = true
    rw [decide_eq_true hi, decide_eq_true hj]; rfl
  rw [if_pos e2] at e1
  clear e2
  have ib : ∀ (m : List M) (l : List Blk), itAny m (blksD l) = some (l.map blkD, fun _ => True) := fun m l => ia_lst
  have c1 : lcGo (fun _ => True) (gNm 2) tYes' (dMeth "Block" "has" 2 G_Block_has [] (dVar 2) (aCons (dVar 1) aNil)) [some (areaD F), some (.tup [.int i, .int j]), none] (F.map blkD) μ [] = .ok (F.map fun b => .bl (hasB b i j)) μ := by
    rw [lc_map (fun x => .bl (hasB (unB x) i j)) ⟨⟩ (F.map blkD) (fun x hx => by
      obtain ⟨b, m, rfl⟩ := List.mem_map.mp hx
      refine ⟨_, g_nm, ?_⟩
      rw [unB_blk]
      have e2 := x_has (b := b) hc hi hj
      clear e1 ib
      apply eq_ok
      show WO (dMeth "Block" "has" 2 G_Block_has [] (dVar 2) (aCons (dVar 1) aNil) [some (areaD F), some (.tup [.int i, .int j]), some (blkD b)] μ) _ _ ⟨⟩
      trivial
      all_goals rfl) (by rw [List.length_map]; omega), List.map_map]
    congr 1
    apply List.map_congr_left
    intro b _
    show D.bl (hasB (unB (blkD b)) i j) = _
    rw [unB_blk]
  have a1 := any_map (m := μ) (f := fun b => hasB b i j) (l := F)
  clear hl
  trivial
  exact fr_same hc rfl ⟨rfl, rfl⟩
theorem x_ahasNo (hc : Cln μ) (h : knC d = true) (hd : cellD d = false) : G_Area_has [areaD F, d] μ = .ex "NoCell" [] [] μ := by
  apply eq_ex
  unfold G_Area_has
  refine wo_fn rfl ?_
  unfold D_Area_has
  have e1 := x_checked (d := d) hc h
  rw [hd, if_neg Bool.false_ne_true] at e1
  clear h hd
  trivial
  all_goals first | exact List.take_length | exact ⟨rfl, List.take_length⟩ | exact ⟨rfl, hc, List.take_length⟩ | exact rfl
end
end PG
namespace PG
open PySem PySem.Spec PyProof.Rows L2 DL
local macro_rules | `(tactic| trivial) => `(tactic| simp (config := { dsimp := false }) only [*, eq_self, DL.w_ok, DL.w_ex, DL.w_bind, DL.w_bindS, DL.o_some, DL.w_dC, DL.w_var, DL.w_op, DL.a_nil, DL.a_cons, DL.w_tup, DL.w_lst, DL.w_blt, DL.w_call, DL.w_callN, DL.w_or, DL.w_and, DL.w_not, DL.w_neg, DL.w_if, DL.w_chain, DL.t_tru, DL.t_tst, DL.t_and, DL.t_or, DL.t_not, DL.p_no, DL.p_some, DL.w_slc, DL.w_m1, DL.w_m0, DL.w_fld, DL.s_nil, DL.s_brk, DL.s_cnt, DL.s_retN, DL.s_raise, DL.s_seq, DL.s_ret, DL.s_exp, DL.s_if, DL.s_set, DL.s_new, DL.s_cel, DL.s_retC, DL.s_par, DL.s_asg, DL.e_add, DL.e_sub, DL.e_mulR, DL.e_mulL, DL.e_modS, DL.e_divS, DL.e_pow, DL.e_lt, DL.e_le, DL.e_gt, DL.e_ge, DL.e_is, DL.e_isN, DL.e_eqI, DL.e_neI, DL.e_eqS, DL.e_neS, DL.h_bl, DL.h_int, DL.h_non, DL.b_bl, DL.i_int, DL.s_str, DL.l_lst, DL.q_lst, DL.q_tup, DL.c_lst, DL.c_seq, DL.c_lis, DL.x_cel, DL.x_lst, DL.x_tup, DL.at_nn, DL.ix_in, DL.p_cel, DL.e_mulIf, DL.e_mulM, DL.t_len, DL.t_intB, DL.start, DL.s_setIx, DL.s_for, DL.i_rng, DL.i_rng2, DL.w_lc, DL.r_one, DL.s_app, DL.g_cel, DL.w_dct0, DL.w_meth, DL.isC_obj, DL.w_make, DL.w_pick, DL.pick_cons, DL.pick_nil, DL.w_own, DL.w_ne, DL.w_obS, DL.cls_obj, DL.fld_obj, DL.w_fmt, DL.w_fs, DL.w_fsNil, DL.w_fsCons, DL.w_isT, DL.w_revA, DL.s_try, DL.s_raiseI, DL.s_tryP, DL.s_endX, DL.w_isXT, DL.i_any, DL.ia_tup, DL.ia_str, DL.ia_lst, DL.ia_scr, DL.ia_cel, DL.gl_glo, DL.w_callA, DL.s_tryN, DL.s_never, DL.s_fld, DL.w_listN, DL.g_seq, DL.g_cons, DL.g_nil, DL.g_nm, DL.t_yes, DL.wipe_cons, DL.wipe_nil, DL.nn_non, DL.nn_int, DL.nn_str, DL.nn_bl, DL.nn_tup, DL.nn_lst, DL.w_fmR, DL.w_owns, DL.w_nes, DL.w_obSs, DL.w_meths, DL.w_xf, DL.i_zip, DL.w_revB, DL.s_new2, DL.w_callN2, DL.s_dct, DL.s_setd, DL.s_popk, DL.s_ext, DL.w_itT, DL.i_itT, DL.i_enum, DL.w_lock, DL.w_sortSet, DL.w_sortK, List.map_cons, List.map_nil, List.length_cons, List.length_nil, List.cons_append, List.nil_append, List.append_nil, List.drop_zero, List.drop_nil, List.drop_succ_cons, List.getElem?_cons_zero, List.getElem?_cons_succ, List.set_cons_zero, List.set_cons_succ, List.replicate_succ, List.replicate_zero, Option.join_some, Option.map_some, if_true, if_false, Bool.not_true, Bool.not_false, true_and, and_true, Nat.reduceAdd, Nat.reduceSub, Nat.reduceLeDiff, decide_true, decide_false, Bool.false_eq_true, Option.bind_some, Int.reduceToNat, List.getElem?_set_self, Int.reduceLT, Int.reduceLE, Int.reduceNeg, Int.reduceSub, Int.reduceAdd, Int.reduceMul, Int.reducePow, Nat.reduceLT, Int.reduceEq, ite_self, PG.dfl_law_mixed, PG.dfl_law_next, PG.dfl_law_number_k31, PG.dfl_law_source])
/-! draws off a number: `_law_source`, `_law_next` -/
theorem source_k {μ : List M} {c : Int} {Q : List D → List M → Prop} {X : XP} (hc : Cln μ) (k : Q [.int c, .int c, .int 0] μ) : WO (G_law_source [.int c] μ) Q X ⟨⟩ := by
  refine WO.use (Q' := fun l m => l = [.int c, .int c, .int 0] ∧ m = μ) (k' := ⟨⟩) ?_ (by rintro l m ⟨rfl, rfl⟩; exact k)
  unfold G_law_source
  refine wo_fnN rfl ?_
  unfold D_law_source
  trivial
  exact ⟨_, _, rfl, Nat.le_refl _, List.getElem?_concat_length, rfl, hc.snoc rfl, rfl, List.take_left⟩
theorem x_mixed {μ : List M} {a b : Int} (hc : Cln μ) : ∃ r, G_law_mixed [.int a, .int b] μ = .ok (.int r) μ := by
  suffices h : WO (G_law_mixed [.int a, .int b] μ) (fun x m => ∃ r, x = .int r ∧ m = μ) xNo ⟨⟩ by
    obtain ⟨x, m, e, r, rfl, rfl⟩ := h.ex_
    exact ⟨r, e⟩
  unfold G_law_mixed
  refine wo_fn rfl ?_
  unfold D_law_mixed
  trivial
  exact ⟨rfl, hc, _, rfl, List.take_length⟩
theorem next_ok {μ : List M} {i : Nat} {n : Int} (hc : Cln μ) (hw : Well μ i) (hn : 0 < n) (hn2 : n < 9223372036854775808) : WO (G_law_next [.cel i, .int n] μ) (fun x m => ∃ r a b c : Int, x = .int r ∧ 0 ≤ r ∧ r < n ∧ m = μ.set i (.lst [.int a, .int b, .int c])) xNo ⟨⟩ := by
  obtain ⟨a, b, c, hw⟩ := hw
  have hi : i < μ.length := (List.getElem?_eq_some_iff.mp hw).1
  obtain ⟨r, hr⟩ := x_mixed (μ := μ.set i (.lst [.int a, .int b, .int (c + 1)])) (a := b) (b := c + 1) (hc.set rfl)
  unfold G_law_next
  refine wo_fn rfl ?_
  unfold D_law_next
  trivial
  by_cases h : 1000000000000000000 ≤ a
  · trivial
    exact ⟨rfl, hc.set rfl, _, _, _, _, rfl, Int.emod_nonneg _ (by omega), Int.emod_lt_of_pos _ hn, take_set⟩
  · trivial
    exact ⟨rfl, hc.set rfl, _, _, _, _, rfl, Int.emod_nonneg _ (by omega), Int.emod_lt_of_pos _ hn, take_set⟩
section
variable {μ m m' : List M} {i : Nat}
theorem next_k {n : Int} {Q : D → List M → Prop} {X : XP} (h : Dr μ i m) (hn : 0 < n) (hn2 : n < 9223372036854775808) (k : ∀ r m', 0 ≤ r → r < n → Dr μ i m' → Q (.int r) m') : WO (G_law_next [.cel i, .int n] m) Q X ⟨⟩ := by
  refine (next_ok h.cln h.well hn hn2).use ?_
  rintro x m' ⟨r, a, b, c, rfl, h0, h1, rfl⟩
  exact k r _ h0 h1 h.step
end
end PG
namespace PG
open PySem PySem.Spec PyProof.Rows L2 DL
local macro_rules | `(tactic| trivial) => `(tactic| simp (config := { dsimp := false }) only [*, eq_self, DL.w_ok, DL.w_ex, DL.w_bind, DL.w_bindS, DL.o_some, DL.w_dC, DL.w_var, DL.w_op, DL.a_nil, DL.a_cons, DL.w_tup, DL.w_lst, DL.w_blt, DL.w_call, DL.w_callN, DL.w_or, DL.w_and, DL.w_not, DL.w_neg, DL.w_if, DL.w_chain, DL.t_tru, DL.t_tst, DL.t_and, DL.t_or, DL.t_not, DL.p_no, DL.p_some, DL.w_slc, DL.w_m1, DL.w_m0, DL.w_fld, DL.s_nil, DL.s_brk, DL.s_cnt, DL.s_retN, DL.s_raise, DL.s_seq, DL.s_ret, DL.s_exp, DL.s_if, DL.s_set, DL.s_new, DL.s_cel, DL.s_retC, DL.s_par, DL.s_asg, DL.e_add, DL.e_sub, DL.e_mulR, DL.e_mulL, DL.e_modS, DL.e_divS, DL.e_pow, DL.e_lt, DL.e_le, DL.e_gt, DL.e_ge, DL.e_is, DL.e_isN, DL.e_eqI, DL.e_neI, DL.e_eqS, DL.e_neS, DL.h_bl, DL.h_int, DL.h_non, DL.b_bl, DL.i_int, DL.s_str, DL.l_lst, DL.q_lst, DL.q_tup, DL.c_lst, DL.c_seq, DL.c_lis, DL.x_cel, DL.x_lst, DL.x_tup, DL.at_nn, DL.ix_in, DL.p_cel, DL.e_mulIf, DL.e_mulM, DL.t_len, DL.t_intB, DL.start, DL.s_setIx, DL.s_for, DL.i_rng, DL.i_rng2, DL.w_lc, DL.r_one, DL.s_app, DL.g_cel, DL.w_dct0, DL.w_meth, DL.isC_obj, DL.w_make, DL.w_pick, DL.pick_cons, DL.pick_nil, DL.w_own, DL.w_ne, DL.w_obS, DL.cls_obj, DL.fld_obj, DL.w_fmt, DL.w_fs, DL.w_fsNil, DL.w_fsCons, DL.w_isT, DL.w_revA, DL.s_try, DL.s_raiseI, DL.s_tryP, DL.s_endX, DL.w_isXT, DL.i_any, DL.ia_tup, DL.ia_str, DL.ia_lst, DL.ia_scr, DL.ia_cel, DL.gl_glo, DL.w_callA, DL.s_tryN, DL.s_never, DL.s_fld, DL.w_listN, DL.g_seq, DL.g_cons, DL.g_nil, DL.g_nm, DL.t_yes, DL.wipe_cons, DL.wipe_nil, DL.nn_non, DL.nn_int, DL.nn_str, DL.nn_bl, DL.nn_tup, DL.nn_lst, DL.w_fmR, DL.w_owns, DL.w_nes, DL.w_obSs, DL.w_meths, DL.w_xf, DL.i_zip, DL.w_revB, DL.s_new2, DL.w_callN2, DL.s_dct, DL.s_setd, DL.s_popk, DL.s_ext, DL.w_itT, DL.i_itT, DL.i_enum, DL.w_lock, DL.w_sortSet, DL.w_sortK, List.map_cons, List.map_nil, List.length_cons, List.length_nil, List.cons_append, List.nil_append, List.append_nil, List.drop_zero, List.drop_nil, List.drop_succ_cons, List.getElem?_cons_zero, List.getElem?_cons_succ, List.set_cons_zero, List.set_cons_succ, List.replicate_succ, List.replicate_zero, Option.join_some, Option.map_some, if_true, if_false, Bool.not_true, Bool.not_false, true_and, and_true, Nat.reduceAdd, Nat.reduceSub, Nat.reduceLeDiff, decide_true, decide_false, Bool.false_eq_true, Option.bind_some, Int.reduceToNat, List.getElem?_set_self, Int.reduceLT, Int.reduceLE, Int.reduceNeg, Int.reduceSub, Int.reduceAdd, Int.reduceMul, Int.reducePow, Nat.reduceLT, Int.reduceEq, ite_self, optN, optS, PG.dfl_law_ends_k12, PG.dfl_law_mixed, PG.dfl_law_next])
section
variable {μ m : List M} {i : Nat} {g : Int}
theorem ends_k {Q : D → List M → Prop} {X : XP} (h : Dr μ i m) (hg : g = 0 ∨ g = 1) (k : ∀ (f : Int) (o : Option Int) m', 1 ≤ f → leO f o = true → f ≤ 1000000000000 → (∀ q, o = some q → q ≤ 1000000000000) → Dr μ i m' → Q (.tup [.int f, opt o]) m') : WO (G_law_ends_k12 [.cel i, .int g] m) Q X ⟨⟩ := by
  refine WO.use (Q' := fun x m' => ∃ f o, x = .tup [.int f, opt o] ∧ 1 ≤ f ∧ leO f o = true ∧ f ≤ 1000000000000 ∧ (∀ q, o = some q → q ≤ 1000000000000) ∧ Dr μ i m') (k' := ⟨⟩) ?_ (by rintro x m' ⟨f, o, rfl, h1, h2, h3, h4, h5⟩; exact k f o m' h1 h2 h3 h4 h5)
  unfold G_law_ends_k12
  refine wo_fn rfl ?_
  unfold D_law_ends_k12
  have mx : ∀ (m : List M) (a b : Int), bMax m [.int a, .int b] = some (.int (if a < b then b else a)) := fun _ _ _ => rfl
  have fin : ∀ (f : Int) (o : Option Int) (m2 : List M), 1 ≤ f → leO f o = true → f ≤ 1000000000000 → (∀ q, o = some q → q ≤ 1000000000000) → Dr m i m2 → FR m.length m2 (.tup [.int f, opt o]) (fun x m' => ∃ f o, x = .tup [.int f, opt o] ∧ 1 ≤ f ∧ leO f o = true ∧ f ≤ 1000000000000 ∧ (∀ q, o = some q → q ≤ 1000000000000) ∧ Dr μ i m') := fun f o m2 h1 h2 h3 h4 d => d.fr (show clean 0 (.tup [.int f, opt o]) = true from clean_iv (p := (f, o))) ⟨f, o, rfl, h1, h2, h3, h4, h.trans d⟩
  have hs := h.self
  clear k h
  have last : ∀ (a b : Int) (m2 : List M), 1 ≤ a → a ≤ 1000000000000 → b ≤ 1000000000000 → Dr m i m2 → WS (sSeq (sIf (dTst (dOp opEq (dCall 2 G_law_next [] (aCons (dVar 0) (aCons (dC (.int 5)) aNil))) (dC (.int 0)))) (sAsg (dC (.int 1)) (gNm 2)) sNil)
      (sSeq (sIf (dTst (dOp opEq (dCall 2 G_law_next [] (aCons (dVar 0) (aCons (dC (.int 5)) aNil))) (dC (.int 0)))) (sRet (dTup (aCons (dVar 2) (aCons (dC .non) aNil)))) sNil)
      (sRet (dTup (aCons (dVar 2) (aCons (dBlt bMax (aCons (dVar 2) (aCons (dVar 3) aNil))) aNil))))) [some (.cel i), some (.int g), some (.int a), some (.int b)] m2)
      (fun x m' => FR m.length m' D.non fun x m' => ∃ f o, x = .tup [.int f, opt o] ∧ 1 ≤ f ∧ leO f o = true ∧ f ≤ 1000000000000 ∧ (∀ q, o = some q → q ≤ 1000000000000) ∧ Dr μ i m')
      (fun d m' => FR m.length m' d fun x m' => ∃ f o, x = .tup [.int f, opt o] ∧ 1 ≤ f ∧ leO f o = true ∧ f ≤ 1000000000000 ∧ (∀ q, o = some q → q ≤ 1000000000000) ∧ Dr μ i m') (fun _ _ => False) (fun _ _ => False) (fun c ns l _ m' => cleans 0 l = true ∧ Cln m' ∧ xNo c ns l (m'.take m.length)) ⟨⟩ := fun a b m2 h1 h8 h9 d => by
    have e5 : (0 : Int) < 5 := by decide
    have body : ∀ (a : Int) (m2 : List M), 1 ≤ a → a ≤ 1000000000000 → Dr m i m2 → WS (sSeq (sIf (dTst (dOp opEq (dCall 2 G_law_next [] (aCons (dVar 0) (aCons (dC (.int 5)) aNil))) (dC (.int 0)))) (sRet (dTup (aCons (dVar 2) (aCons (dC .non) aNil)))) sNil)
      (sRet (dTup (aCons (dVar 2) (aCons (dBlt bMax (aCons (dVar 2) (aCons (dVar 3) aNil))) aNil)))) [some (.cel i), some (.int g), some (.int a), some (.int b)] m2)
      (fun x m' => FR m.length m' D.non fun x m' => ∃ f o, x = .tup [.int f, opt o] ∧ 1 ≤ f ∧ leO f o = true ∧ f ≤ 1000000000000 ∧ (∀ q, o = some q → q ≤ 1000000000000) ∧ Dr μ i m')
      (fun d m' => FR m.length m' d fun x m' => ∃ f o, x = .tup [.int f, opt o] ∧ 1 ≤ f ∧ leO f o = true ∧ f ≤ 1000000000000 ∧ (∀ q, o = some q → q ≤ 1000000000000) ∧ Dr μ i m') (fun _ _ => False) (fun _ _ => False) (fun c ns l _ m' => cleans 0 l = true ∧ Cln m' ∧ xNo c ns l (m'.take m.length)) ⟨⟩ := fun a m2 h1 h8 d => by
      have f1 := fun m2 d => fin a none m2 h1 rfl h8 (fun _ z => nomatch z) d
      have f2 := fun m2 d => fin a (some (if a < b then b else a)) m2 h1 (leO_some.mpr (by split <;> omega)) h8 (fun q z => by cases z; split <;> omega) d
      rw [optN] at f1
      rw [optS] at f2
      clear fin
      trivial
      refine next_k d (by decide) (by decide) fun r m3 r0 r1 d3 => ?_
      have f1 := f1 m3 d3
      have f2 := f2 m3 d3
      by_cases hr : r = 0
      · clear f2
        trivial
      · clear f1
        trivial
    trivial
    refine next_k d (by decide) (by decide) fun r m3 r0 r1 d3 => ?_
    have b1 := body 1 m3 (by decide) (by decide) d3
    have b2 := body a m3 h1 h8 d3
    clear body fin
    by_cases hr : r = 0
    · clear b2
      trivial
    · clear b1
      trivial
  clear fin
  rcases hg with rfl | rfl
  · clear mx
    trivial
    refine next_k hs (by decide) (by decide) fun r m1 r0 r1 d1 => ?_
    trivial
    refine next_k d1 (by decide) (by decide) fun r2 m2 r20 r21 d2 => ?_
    trivial
    refine next_k d2 (by decide) (by decide) fun r3 m3 r30 r31 d3 => ?_
    have l := last (1 + r) (1 + r + r2 * 1) m3 (by omega) (by omega) (by omega) d3
    clear last
    clear r0 r1 r20 r21 r30 r31
    trivial
  · clear mx
    trivial
    refine next_k hs (by decide) (by decide) fun r m1 r0 r1 d1 => ?_
    trivial
    refine next_k d1 (by decide) (by decide) fun r2 m2 r20 r21 d2 => ?_
    trivial
    refine next_k d2 (by decide) (by decide) fun r3 m3 r30 r31 d3 => ?_
    have ml : ∀ m, opMul m (.int r2) (.int (r3 + 1)) = some (.int (r2 * (r3 + 1))) := fun m => e_mulL (by omega) (by omega)
    have l := last (1 + r) (1 + r + r2 * (r3 + 1)) m3 (by omega) (by omega) (by
      have : r2 = 0 ∨ r2 = 1 ∨ r2 = 2 := by omega
      rcases this with rfl | rfl | rfl <;> omega) d3
    clear last
    clear r0 r1 r20 r21 r30 r31
    trivial
end
end PG
namespace PG
open PySem PySem.Spec PyProof.Rows L2 DL
section
variable {μ m : List M} {b : Blk} {i : Int}
theorem opt_none : opt none = .non := rfl
theorem opt_some {i : Int} : opt (some i) = .int i := rfl
theorem q_four : seqOf m (four b) = some [.int b.t, .int b.l, opt b.b, opt b.r] := rfl
theorem x_four : opIx m (four b) (.int i) = atI [.int b.t, .int b.l, opt b.b, opt b.r] i := rfl
end
local macro_rules | `(tactic| trivial) => `(tactic| simp (config := { dsimp := false }) only [*, eq_self, DL.w_ok, DL.w_ex, DL.w_bind, DL.w_bindS, DL.o_some, DL.w_dC, DL.w_var, DL.w_op, DL.a_nil, DL.a_cons, DL.w_tup, DL.w_lst, DL.w_blt, DL.w_call, DL.w_callN, DL.w_or, DL.w_and, DL.w_not, DL.w_neg, DL.w_if, DL.w_chain, DL.t_tru, DL.t_tst, DL.t_and, DL.t_or, DL.t_not, DL.p_no, DL.p_some, DL.w_slc, DL.w_m1, DL.w_m0, DL.w_fld, DL.s_nil, DL.s_brk, DL.s_cnt, DL.s_retN, DL.s_raise, DL.s_seq, DL.s_ret, DL.s_exp, DL.s_if, DL.s_set, DL.s_new, DL.s_cel, DL.s_retC, DL.s_par, DL.s_asg, DL.e_add, DL.e_sub, DL.e_mulR, DL.e_mulL, DL.e_modS, DL.e_divS, DL.e_pow, DL.e_lt, DL.e_le, DL.e_gt, DL.e_ge, DL.e_is, DL.e_isN, DL.e_eqI, DL.e_neI, DL.e_eqS, DL.e_neS, DL.h_bl, DL.h_int, DL.h_non, DL.b_bl, DL.i_int, DL.s_str, DL.l_lst, DL.q_lst, DL.q_tup, DL.c_lst, DL.c_seq, DL.c_lis, DL.x_cel, DL.x_lst, DL.x_tup, DL.at_nn, DL.ix_in, DL.p_cel, DL.e_mulIf, DL.e_mulM, DL.t_len, DL.t_intB, DL.start, DL.s_setIx, DL.s_for, DL.i_rng, DL.i_rng2, DL.w_lc, DL.r_one, DL.s_app, DL.g_cel, DL.w_dct0, DL.w_meth, DL.isC_obj, DL.w_make, DL.w_pick, DL.pick_cons, DL.pick_nil, DL.w_own, DL.w_ne, DL.w_obS, DL.cls_obj, DL.fld_obj, DL.w_fmt, DL.w_fs, DL.w_fsNil, DL.w_fsCons, DL.w_isT, DL.w_revA, DL.s_try, DL.s_raiseI, DL.s_tryP, DL.s_endX, DL.w_isXT, DL.i_any, DL.ia_tup, DL.ia_str, DL.ia_lst, DL.ia_scr, DL.ia_cel, DL.gl_glo, DL.w_callA, DL.s_tryN, DL.s_never, DL.s_fld, DL.w_listN, DL.g_seq, DL.g_cons, DL.g_nil, DL.g_nm, DL.t_yes, DL.wipe_cons, DL.wipe_nil, DL.nn_non, DL.nn_int, DL.nn_str, DL.nn_bl, DL.nn_tup, DL.nn_lst, DL.w_fmR, DL.w_owns, DL.w_nes, DL.w_obSs, DL.w_meths, DL.w_xf, DL.i_zip, DL.w_revB, DL.s_new2, DL.w_callN2, DL.s_dct, DL.s_setd, DL.s_popk, DL.s_ext, DL.w_itT, DL.i_itT, DL.i_enum, DL.w_lock, DL.w_sortSet, DL.w_sortK, List.map_cons, List.map_nil, List.length_cons, List.length_nil, List.cons_append, List.nil_append, List.append_nil, List.drop_zero, List.drop_nil, List.drop_succ_cons, List.getElem?_cons_zero, List.getElem?_cons_succ, List.set_cons_zero, List.set_cons_succ, List.replicate_succ, List.replicate_zero, Option.join_some, Option.map_some, if_true, if_false, Bool.not_true, Bool.not_false, true_and, and_true, Nat.reduceAdd, Nat.reduceSub, Nat.reduceLeDiff, decide_true, decide_false, Bool.false_eq_true, Option.bind_some, Int.reduceToNat, List.getElem?_set_self, Int.reduceLT, Int.reduceLE, Int.reduceNeg, Int.reduceSub, Int.reduceAdd, Int.reduceMul, Int.reducePow, Nat.reduceLT, Int.reduceEq, ite_self, c_blk, f_top, f_left, f_bottom, f_right, is_has, is_size, q_four, x_four, opt_none, opt_some, PG.dfl_Block_eq__, PG.dfl_Block_has, PG.dfl_Block_init__, PG.dfl_Block_size, PG.dfl_law_alike, PG.dfl_law_has, PG.dfl_law_made, PG.dfl_law_right, PG.dfl_law_size])
section
variable {μ m : List M} {d e : D} {i : Nat} {x : Str} {l : List D} {b c : Blk} {o : Option Int}
def cellT (p : Int × Int) : D := .tup [.int p.1, .int p.2]
end
end PG
namespace PG
open PySem PySem.Spec PyProof.Rows L2 DL
section
variable {μ m : List M} {b : Blk} {i j : Nat}
/-- a draw, with one more cell behind -/
theorem Dr.snoc {x : M} (h : Dr μ i m) (hx : cleanM 0 x = true) : Dr (μ ++ [x]) i (m ++ [x]) := by
  obtain ⟨a, b, c, rfl⟩ := h.ex
  exact ⟨h.cln0.snoc hx, by rw [List.length_append]; have := h.lt; omega, a, b, c, by rw [List.set_append_left _ _ h.lt]⟩
theorem set_last {x y : M} : (m ++ [x]).set m.length y = m ++ [y] := by
  rw [List.set_append_right _ _ (Nat.le_refl _), Nat.sub_self]; rfl
theorem clean_cells (cs : List (Int × Int)) : cleans 0 (cs.map cellT) = true := by
  induction cs with
  | nil => rfl
  | cons p cs h => rw [List.map_cons]; show (clean 0 (cellT p) && cleans 0 (cs.map cellT)) = true; rw [h]; rfl
end
local macro_rules | `(tactic| trivial) => `(tactic| simp (config := { dsimp := false }) only [*, eq_self, DL.w_ok, DL.w_ex, DL.w_bind, DL.w_bindS, DL.o_some, DL.w_dC, DL.w_var, DL.w_op, DL.a_nil, DL.a_cons, DL.w_tup, DL.w_lst, DL.w_blt, DL.w_call, DL.w_callN, DL.w_or, DL.w_and, DL.w_not, DL.w_neg, DL.w_if, DL.w_chain, DL.t_tru, DL.t_tst, DL.t_and, DL.t_or, DL.t_not, DL.p_no, DL.p_some, DL.w_slc, DL.w_m1, DL.w_m0, DL.w_fld, DL.s_nil, DL.s_brk, DL.s_cnt, DL.s_retN, DL.s_raise, DL.s_seq, DL.s_ret, DL.s_exp, DL.s_if, DL.s_set, DL.s_new, DL.s_cel, DL.s_retC, DL.s_par, DL.s_asg, DL.e_add, DL.e_sub, DL.e_mulR, DL.e_mulL, DL.e_modS, DL.e_divS, DL.e_pow, DL.e_lt, DL.e_le, DL.e_gt, DL.e_ge, DL.e_is, DL.e_isN, DL.e_eqI, DL.e_neI, DL.e_eqS, DL.e_neS, DL.h_bl, DL.h_int, DL.h_non, DL.b_bl, DL.i_int, DL.s_str, DL.l_lst, DL.q_lst, DL.q_tup, DL.c_lst, DL.c_seq, DL.c_lis, DL.x_cel, DL.x_lst, DL.x_tup, DL.at_nn, DL.ix_in, DL.p_cel, DL.e_mulIf, DL.e_mulM, DL.t_len, DL.t_intB, DL.start, DL.s_setIx, DL.s_for, DL.i_rng, DL.i_rng2, DL.w_lc, DL.r_one, DL.s_app, DL.g_cel, DL.w_dct0, DL.w_meth, DL.isC_obj, DL.w_make, DL.w_pick, DL.pick_cons, DL.pick_nil, DL.w_own, DL.w_ne, DL.w_obS, DL.cls_obj, DL.fld_obj, DL.w_fmt, DL.w_fs, DL.w_fsNil, DL.w_fsCons, DL.w_isT, DL.w_revA, DL.s_try, DL.s_raiseI, DL.s_tryP, DL.s_endX, DL.w_isXT, DL.i_any, DL.ia_tup, DL.ia_str, DL.ia_lst, DL.ia_scr, DL.ia_cel, DL.gl_glo, DL.w_callA, DL.s_tryN, DL.s_never, DL.s_fld, DL.w_listN, DL.g_seq, DL.g_cons, DL.g_nil, DL.g_nm, DL.t_yes, DL.wipe_cons, DL.wipe_nil, DL.nn_non, DL.nn_int, DL.nn_str, DL.nn_bl, DL.nn_tup, DL.nn_lst, DL.w_fmR, DL.w_owns, DL.w_nes, DL.w_obSs, DL.w_meths, DL.w_xf, DL.i_zip, DL.w_revB, DL.s_new2, DL.w_callN2, DL.s_dct, DL.s_setd, DL.s_popk, DL.s_ext, DL.w_itT, DL.i_itT, DL.i_enum, DL.w_lock, DL.w_sortSet, DL.w_sortK, List.map_cons, List.map_nil, List.length_cons, List.length_nil, List.cons_append, List.nil_append, List.append_nil, List.drop_zero, List.drop_nil, List.drop_succ_cons, List.getElem?_cons_zero, List.getElem?_cons_succ, List.set_cons_zero, List.set_cons_succ, List.replicate_succ, List.replicate_zero, Option.join_some, Option.map_some, if_true, if_false, Bool.not_true, Bool.not_false, true_and, and_true, Nat.reduceAdd, Nat.reduceSub, Nat.reduceLeDiff, decide_true, decide_false, Bool.false_eq_true, Option.bind_some, Int.reduceToNat, List.getElem?_set_self, Int.reduceLT, Int.reduceLE, Int.reduceNeg, Int.reduceSub, Int.reduceAdd, Int.reduceMul, Int.reducePow, Nat.reduceLT, Int.reduceEq, ite_self, c_blk, opt_none, opt_some, q_four, x_four, PG.dfl_law_cells, PG.dfl_law_draw])
end PG
namespace PG
open PySem PySem.Spec PyProof.Rows L2 DL
section
variable {μ m : List M} {i : Nat} {g : Int}
theorem Dr.unsnoc {x : M} {m2 : List M} (hc : Cln m) (hi : i < m.length) (h : Dr (m ++ [x]) i m2) : ∃ m', m2 = m' ++ [x] ∧ Dr m i m' := by
  obtain ⟨a, b, c, rfl⟩ := h.ex
  exact ⟨m.set i (.lst [.int a, .int b, .int c]), by rw [List.set_append_left _ _ hi], hc, hi, a, b, c, rfl⟩
theorem next_k1 {n : Int} {x : M} {Q : D → List M → Prop} {X : XP} (h : Dr μ i m) (hx : cleanM 0 x = true) (hn : 0 < n) (hn2 : n < 9223372036854775808) (k : ∀ r m', 0 ≤ r → r < n → Dr μ i m' → Q (.int r) (m' ++ [x])) : WO (G_law_next [.cel i, .int n] (m ++ [x])) Q X ⟨⟩ := by
  refine next_k (h.self.snoc hx) hn hn2 fun r m2 r0 r1 d => ?_
  obtain ⟨m', rfl, d'⟩ := Dr.unsnoc h.cln (by rw [h.len]; exact h.lt) d
  exact k r m' r0 r1 (h.trans d')
theorem ends_k1 {x : M} {Q : D → List M → Prop} {X : XP} (h : Dr μ i m) (hx : cleanM 0 x = true) (hg : g = 0 ∨ g = 1) (k : ∀ (f : Int) (o : Option Int) m', 1 ≤ f → leO f o = true → f ≤ 1000000000000 → (∀ q, o = some q → q ≤ 1000000000000) → Dr μ i m' → Q (.tup [.int f, opt o]) (m' ++ [x])) : WO (G_law_ends_k12 [.cel i, .int g] (m ++ [x])) Q X ⟨⟩ := by
  refine ends_k (h.self.snoc hx) hg fun f o m2 h1 h2 h3 h4 d => ?_
  obtain ⟨m', rfl, d'⟩ := Dr.unsnoc h.cln (by rw [h.len]; exact h.lt) d
  exact k f o m' h1 h2 h3 h4 (h.trans d')
def foursD (l : List Blk) : List D := l.map four
theorem clean_fours {k : Nat} {l : List Blk} : cleans k (foursD l) = true := by
  induction l with
  | nil => rfl
  | cons b l ih => show (clean k (four b) && cleans k (foursD l)) = true; rw [clean_four, ih]; rfl
/-- the numbers of a block are at most n -/
structure Blk.Le (n : Int) (c : Blk) : Prop where
  ht : c.t ≤ n
  hl : c.l ≤ n
  hb : ∀ q, c.b = some q → q ≤ n
  hr : ∀ q, c.r = some q → q ≤ n
theorem Blk.Le.mono {n k : Int} {b : Blk} (h : b.Le n) (hk : n ≤ k) : b.Le k := ⟨by have := h.ht; omega, by have := h.hl; omega, fun q e => by have := h.hb q e; omega, fun q e => by have := h.hr q e; omega⟩
theorem ne_fours {j : Nat} {L : List Blk} (h : m[j]? = some (.lst (foursD L))) : opNe m (.cel j) (.lst []) = some (.bl (decide (L ≠ []))) := by
  have e : now m (.cel j) = .lst (foursD L) := by
    show (match m[j]? with | some (.lst l) => D.lst l | _ => .cel j) = _
    rw [h]
  have pl : ∀ l : List Blk, plains (foursD l) = true := fun l => by
    induction l with
    | nil => rfl
    | cons b l ih => show (plain (four b) && plains (foursD l)) = true; rw [plain_four, ih]; rfl
  have de : ∀ l : List Blk, deps (foursD l) ≤ 1 := fun l => by
    induction l with
    | nil => exact Nat.zero_le _
    | cons b l ih => show max (dep (four b)) (deps (foursD l)) ≤ 1; rw [dep_four]; exact Nat.max_le.mpr ⟨Nat.le_refl _, ih⟩
  unfold opNe
  rw [e, show now m (.lst []) = .lst [] from rfl, if_pos]
  · cases L <;> rfl
  · show (plains _ && (true && (decide (deps _ + 1 ≤ 64) && true))) = true
    rw [pl, decide_eq_true (by have := de L; omega)]; rfl
end
local macro_rules | `(tactic| trivial) => `(tactic| simp (config := { dsimp := false }) only [*, eq_self, DL.w_ok, DL.w_ex, DL.w_bind, DL.w_bindS, DL.o_some, DL.w_dC, DL.w_var, DL.w_op, DL.a_nil, DL.a_cons, DL.w_tup, DL.w_lst, DL.w_blt, DL.w_call, DL.w_callN, DL.w_or, DL.w_and, DL.w_not, DL.w_neg, DL.w_if, DL.w_chain, DL.t_tru, DL.t_tst, DL.t_and, DL.t_or, DL.t_not, DL.p_no, DL.p_some, DL.w_slc, DL.w_m1, DL.w_m0, DL.w_fld, DL.s_nil, DL.s_brk, DL.s_cnt, DL.s_retN, DL.s_raise, DL.s_seq, DL.s_ret, DL.s_exp, DL.s_if, DL.s_set, DL.s_new, DL.s_cel, DL.s_retC, DL.s_par, DL.s_asg, DL.e_add, DL.e_sub, DL.e_mulR, DL.e_mulL, DL.e_modS, DL.e_divS, DL.e_pow, DL.e_lt, DL.e_le, DL.e_gt, DL.e_ge, DL.e_is, DL.e_isN, DL.e_eqI, DL.e_neI, DL.e_eqS, DL.e_neS, DL.h_bl, DL.h_int, DL.h_non, DL.b_bl, DL.i_int, DL.s_str, DL.l_lst, DL.q_lst, DL.q_tup, DL.c_lst, DL.c_seq, DL.c_lis, DL.x_cel, DL.x_lst, DL.x_tup, DL.at_nn, DL.ix_in, DL.p_cel, DL.e_mulIf, DL.e_mulM, DL.t_len, DL.t_intB, DL.start, DL.s_setIx, DL.s_for, DL.i_rng, DL.i_rng2, DL.w_lc, DL.r_one, DL.s_app, DL.g_cel, DL.w_dct0, DL.w_meth, DL.isC_obj, DL.w_make, DL.w_pick, DL.pick_cons, DL.pick_nil, DL.w_own, DL.w_ne, DL.w_obS, DL.cls_obj, DL.fld_obj, DL.w_fmt, DL.w_fs, DL.w_fsNil, DL.w_fsCons, DL.w_isT, DL.w_revA, DL.s_try, DL.s_raiseI, DL.s_tryP, DL.s_endX, DL.w_isXT, DL.i_any, DL.ia_tup, DL.ia_str, DL.ia_lst, DL.ia_scr, DL.ia_cel, DL.gl_glo, DL.w_callA, DL.s_tryN, DL.s_never, DL.s_fld, DL.w_listN, DL.g_seq, DL.g_cons, DL.g_nil, DL.g_nm, DL.t_yes, DL.wipe_cons, DL.wipe_nil, DL.nn_non, DL.nn_int, DL.nn_str, DL.nn_bl, DL.nn_tup, DL.nn_lst, DL.w_fmR, DL.w_owns, DL.w_nes, DL.w_obSs, DL.w_meths, DL.w_xf, DL.i_zip, DL.w_revB, DL.s_new2, DL.w_callN2, DL.s_dct, DL.s_setd, DL.s_popk, DL.s_ext, DL.w_itT, DL.i_itT, DL.i_enum, DL.w_lock, DL.w_sortSet, DL.w_sortK, List.map_cons, List.map_nil, List.length_cons, List.length_nil, List.cons_append, List.nil_append, List.append_nil, List.drop_zero, List.drop_nil, List.drop_succ_cons, List.getElem?_cons_zero, List.getElem?_cons_succ, List.set_cons_zero, List.set_cons_succ, List.replicate_succ, List.replicate_zero, Option.join_some, Option.map_some, if_true, if_false, Bool.not_true, Bool.not_false, true_and, and_true, Nat.reduceAdd, Nat.reduceSub, Nat.reduceLeDiff, decide_true, decide_false, Bool.false_eq_true, Option.bind_some, Int.reduceToNat, List.getElem?_set_self, Int.reduceLT, Int.reduceLE, Int.reduceNeg, Int.reduceSub, Int.reduceAdd, Int.reduceMul, Int.reducePow, Nat.reduceLT, Int.reduceEq, ite_self, optN, optS, PG.dfl_law_drawn, PG.dfl_law_ends_k12, PG.dfl_law_mixed, PG.dfl_law_next])
section
variable {μ m : List M} {i : Nat} {g : Int}
theorem drawn_k {Q : List Blk → List M → Prop} {Q' : D → List M → Prop} {X : XP} (h : Dr μ i m) (k : ∀ (L : List Blk) m', L.length ≤ 8 → AllOk L → (∀ b ∈ L, b.Le 2000000000000) → Dr μ i m' → Q' (.lst (foursD L)) m') : WO (G_law_drawn [.cel i, .int 8] m) Q' X ⟨⟩ := by
  refine WO.use (Q' := fun x m' => ∃ L, x = .lst (foursD L) ∧ L.length ≤ 8 ∧ AllOk L ∧ (∀ b ∈ L, b.Le 2000000000000) ∧ Dr μ i m') (k' := ⟨⟩) ?_ (by rintro x m' ⟨L, rfl, h1, h2, h3, h4⟩; exact k L m' h1 h2 h3 h4)
  clear k
  unfold G_law_drawn
  refine wo_fnC rfl ?_
  unfold D_law_drawn
  have fin : ∀ (L : List Blk) (m' : List M), L.length ≤ 8 → AllOk L → (∀ b ∈ L, b.Le (1000000000000 + 10 * (L.length : Int))) → Dr μ i m' → FRc m.length (m' ++ [.lst (foursD L)]) (.cel m.length) (fun x m' => ∃ L, x = .lst (foursD L) ∧ L.length ≤ 8 ∧ AllOk L ∧ (∀ b ∈ L, b.Le 2000000000000) ∧ Dr μ i m') := fun L m' h1 h2 h3 d => by
    have e : m'.length = m.length := by rw [d.len, h.len]
    refine .inr ⟨m.length, _, rfl, Nat.le_refl _, by rw [← e]; exact List.getElem?_concat_length, clean_fours, d.cln.snoc (show cleanM 0 (.lst (foursD L)) = true from clean_fours), ?_⟩
    refine ⟨L, rfl, h1, h2, fun b mb => (h3 b mb).mono (by omega), ?_⟩
    rw [← e, List.take_left]
    exact d
  have hs := h.self
  have hl := h.len
  have mul : ∀ {m'}, Dr m i m' → Dr μ i m' := fun d => h.trans d
  have tr : Dr μ i m := h
  clear h
  trivial
  refine next_k hs (by decide) (by decide) fun gr m1 g0 g1 d1 => ?_
  have hg : gr = 0 ∨ gr = 1 := by omega
  have d1 := mul d1
  have l1 : m1.length = m.length := by rw [d1.len, hl]
  have al : ∀ (m' : List M), Dr μ i m' → ∀ x, (m' ++ [x])[m.length]? = some x := fun m' d x => by rw [show m.length = m'.length from by rw [d.len, hl]]; exact List.getElem?_concat_length
  have sl : ∀ (m' : List M), Dr μ i m' → ∀ x y, (m' ++ [x]).set m.length y = m' ++ [y] := fun m' d x y => by rw [show m.length = m'.length from by rw [d.len, hl]]; exact set_last
  clear g0 g1 hs mul hl tr
  trivial
  refine next_k1 d1 rfl (by decide) (by decide) fun n m2 n0 n1 d2 => ?_
  have r1 : rngOne [.int n] = some n := r_one (by omega) (by omega)
  have li : (iota 0 n.toNat).length ≤ 8 := by unfold iota; rw [List.length_map, List.length_range]; omega
  clear n0 n1 d1 l1
  trivial
  clear r1
  have e0 : ∀ m' : List M, m' ++ [M.lst []] = m' ++ [M.lst (foursD [])] := fun _ => rfl
  rw [e0]
  clear e0
  refine s_forGo (fun xs e mm => ∃ (L : List Blk) (m' : List M) (e4 e5 e6 e7 e8 e9 : Option D), xs.length + L.length ≤ 8 ∧ AllOk L ∧ (∀ b ∈ L, b.Le (1000000000000 + 10 * (L.length : Int))) ∧ Dr μ i m' ∧ e = [some (.cel i), some (.int 8), some (.int gr), some (.cel m.length), e4, e5, e6, e7, e8, e9] ∧ mm = m' ++ [.lst (foursD L)]) ?_ ?_ _ _ _ ⟨[], m2, none, none, none, none, none, none, li, (fun _ q => nomatch q), (fun _ q => nomatch q), d2, rfl, rfl⟩
  · rintro e mm ⟨L, m', e4, e5, e6, e7, e8, e9, h1, h2, h3, h4, rfl, rfl⟩
    have f := fin L m' (by rw [List.length_nil] at h1; omega) h2 h3 h4
    clear fin al sl
    refine ⟨⟨⟩, ?_⟩
    trivial
  · rintro x xs e mm ⟨L, m', e4, e5, e6, e7, e8, e9, h1, h2, h3, h4, rfl, rfl⟩
    refine ⟨⟨⟩, ?_⟩
    rw [List.length_cons] at h1
    clear fin li d2
    have app : ∀ (t l : Int) (b r : Option Int) (m' : List M) (e4 e9 : Option D), Dr μ i m' → 1 ≤ t → 1 ≤ l → leO t b = true → leO l r = true → Blk.Le (1000000000000 + 10 * ((L.length : Int) + 1)) ⟨t, l, b, r⟩ →
        ∃ (L' : List Blk) (m'' : List M) (f4 f5 f6 f7 f8 f9 : Option D), xs.length + L'.length ≤ 8 ∧ AllOk L' ∧ (∀ b ∈ L', b.Le (1000000000000 + 10 * (L'.length : Int))) ∧ Dr μ i m'' ∧ [some (.cel i), some (.int 8), some (.int gr), some (.cel m.length), e4, some (.int t), some (opt b), some (.int l), some (opt r), e9] = [some (.cel i), some (.int 8), some (.int gr), some (.cel m.length), f4, f5, f6, f7, f8, f9] ∧
          m' ++ [M.lst (foursD L ++ [.tup [.int t, .int l, opt b, opt r]])] = m'' ++ [.lst (foursD L')] := fun t l b r m' e4 e9 d z1 z2 z3 z4 z5 =>
      ⟨L ++ [⟨t, l, b, r⟩], m', _, _, _, _, _, _, by rw [List.length_append]; show _ + (_ + 1) ≤ _; omega, h2.append (fun c mc => by rw [List.mem_singleton.mp mc]; exact ⟨z1, z2, z3, z4⟩), fun c mc => by
        rw [List.length_append]
        show c.Le (1000000000000 + 10 * ((L.length + 1 : Nat) : Int))
        rcases List.mem_append.mp mc with mc | mc
        · exact (h3 c mc).mono (by omega)
        · rw [List.mem_singleton.mp mc]; exact z5.mono (by omega), d, rfl, by unfold foursD; rw [List.map_append]; rfl⟩
    have ll : (foursD L).length < 100000 := by unfold foursD; rw [List.length_map]; omega
    have cl : cleanM 0 (.lst (foursD L)) = true := clean_fours
    have ne := fun (m' : List M) (d : Dr μ i m') => ne_fours (al m' d (.lst (foursD L)))
    have ln : ∀ m', Dr μ i m' → bLen (m' ++ [M.lst (foursD L)]) [.cel m.length] = some (.int L.length) := fun m' d => by
      have := t_len (m := m' ++ [M.lst (foursD L)]) (d := .cel m.length) (l := foursD L) (by rw [c_seq, al m' d]; rfl)
      rw [this]; unfold foursD; rw [List.length_map]
    have h3' := h3
    clear h3
    have k1 := al m' h4 (.lst (foursD L))
    show WS _ _ _ _ _ _ ⟨⟩
    have app' : id _ := app
    have ne' : id _ := ne
    have ln' : id _ := ln
    have al' : id _ := al
    have sl' : id _ := sl
    have h3'' : id _ := h3'
    have h2' : id _ := h2
    clear al sl ne ln app h1 h2 h3'
    trivial
    refine ends_k1 h4 cl hg fun t b m4 t1 t2 t3 t4 d4 => ?_
    trivial
    refine ends_k1 d4 cl hg fun l r m5 s1 s2 s3 s4 d5 => ?_
    have n5 := ne' m5 d5
    have bo1 : id _ := And.intro t1 (And.intro t2 (And.intro t3 t4))
    have bo2 : id _ := And.intro s1 (And.intro s2 (And.intro s3 s4))
    clear t1 t2 t3 t4 s1 s2 s3 s4 k1
    have fin : id (∀ (t l : Int) (b r : Option Int) (m' : List M), Dr μ i m' → 1 ≤ t → 1 ≤ l → leO t b = true → leO l r = true → Blk.Le (1000000000000 + 10 * ((L.length : Int) + 1)) ⟨t, l, b, r⟩ → Dr μ i m') := fun _ _ _ _ _ d _ _ _ _ _ => d
    clear fin
    by_cases hL : L = []
    · rw [decide_eq_false (fun z => z hL)] at n5
      have k5 := al' m5 d5 (.lst (foursD L))
      have s5 := sl' m5 d5 (.lst (foursD L))
      clear hL
      trivial
      obtain ⟨t1, t2, t3, t4⟩ := bo1
      obtain ⟨s1, s2, s3, s4⟩ := bo2
      exact app' t l b r m5 _ _ d5 t1 s1 t2 s2 ⟨by show t ≤ _; omega, by show l ≤ _; omega, fun q e => by have := t4 q e; omega, fun q e => by have := s4 q e; omega⟩
    · rw [decide_eq_true hL] at n5
      have lp : 0 < L.length := List.length_pos_iff.mpr hL
      clear hL
      have lp' : id _ := lp
      clear lp
      trivial
      refine next_k1 d5 cl (by decide) (by decide) fun r0 m6 a0 a1 d6 => ?_
      clear a0 a1
      have k6 := al' m6 d6 (.lst (foursD L))
      have s6 := sl' m6 d6 (.lst (foursD L))
      by_cases hr0 : r0 = 1
      · have l6 := ln' m6 d6
        trivial
        refine next_k1 d6 cl (by have := lp'; show (0 : Int) < (L.length : Int); exact Int.ofNat_lt.mpr lp') (by unfold foursD at ll; rw [List.length_map] at ll; omega) fun z m7 z0 z1 d7 => ?_
        have k7 := al' m7 d7 (.lst (foursD L))
        obtain ⟨c, mc, ec⟩ : ∃ c, c ∈ L ∧ L[z.toNat]? = some c := by
          have hz : z.toNat < L.length := by omega
          exact ⟨L[z.toNat], List.getElem_mem hz, List.getElem?_eq_getElem hz⟩
        have ix : opIx (m7 ++ [M.lst (foursD L)]) (.cel m.length) (.int z) = some (four c) := by
          rw [x_cel, k7]
          show atI (foursD L) z = _
          rw [at_nn z0]
          unfold foursD
          rw [List.getElem?_map, ec]; rfl
        have okc := h2' c mc
        have lec := h3'' c mc
        have okc' : id _ := okc
        have lec' : id _ := lec
        have i1 : ∀ m, opIx m (four c) (.int 1) = some (.int c.l) := fun _ => rfl
        have i2 : ∀ m, opIx m (four c) (.int 2) = some (opt c.b) := fun _ => rfl
        have i3 : ∀ m, opIx m (four c) (.int 3) = some (opt c.r) := fun _ => rfl
        clear okc lec z0 z1 ec mc
        trivial
        refine next_k1 d7 cl (by decide) (by decide) fun w m8 w0 w1 d8 => ?_
        obtain ⟨l', r', hix, x1, x2, x3, x4⟩ : ∃ (l' : Int) (r' : Option Int), (∀ m, opIx m (.lst [.tup [.int l, opt r], .tup [.int c.l, opt c.r]]) (.int w) = some (.tup [.int l', opt r'])) ∧ 1 ≤ l' ∧ leO l' r' = true ∧ l' ≤ 1000000000000 + 10 * (L.length : Int) ∧ ∀ q, r' = some q → q ≤ 1000000000000 + 10 * (L.length : Int) := by
          obtain ⟨s1, s2, s3, s4⟩ := bo2
          have : w = 0 ∨ w = 1 := by omega
          rcases this with rfl | rfl
          · exact ⟨l, r, fun _ => rfl, s1, s2, by omega, fun q e => by have := s4 q e; omega⟩
          · exact ⟨c.l, c.r, fun _ => rfl, okc'.ol, okc'.or_, lec'.hl, lec'.hr⟩
        have bo3 : id _ := And.intro x1 (And.intro x2 (And.intro x3 x4))
        have k8 := al' m8 d8 (.lst (foursD L))
        have s8 := sl' m8 d8 (.lst (foursD L))
        clear x1 x2 x3 x4 w0 w1
        cases hb : c.b with
        | none =>
          rw [hb] at i2
          clear hb
          have z0 : isNn (opt none) = true := rfl
          trivial
          obtain ⟨t1, t2, t3, t4⟩ := bo1
          obtain ⟨s1, s2, s3, s4⟩ := bo3
          exact app' t l' b r' m8 _ _ d8 t1 s1 t2 s2 ⟨by show t ≤ _; omega, by show l' ≤ _; omega, fun q e => by have := t4 q e; omega, fun q e => by have := s4 q e; omega⟩
        | some q =>
          rw [hb] at i2
          have bq : id (1 ≤ q ∧ q ≤ 1000000000000 + 10 * (L.length : Int)) := ⟨by
            have h1 := okc'.ob
            rw [hb] at h1
            have := leO_some.mp h1
            have := okc'.ot
            omega, lec'.hb q hb⟩
          clear hb
          trivial
          refine next_k1 d8 cl (by decide) (by decide) fun s m9 y0 y1 d9 => ?_
          clear y0 y1
          have k9 := al' m9 d9 (.lst (foursD L))
          have s9 := sl' m9 d9 (.lst (foursD L))
          by_cases hs : s = 1
          · trivial
            refine next_k1 d9 cl (by decide) (by decide) fun u m10 u0 u1 d10 => ?_
            have bu : id (0 ≤ u ∧ u < 3) := ⟨u0, u1⟩
            clear u0 u1
            trivial
            refine next_k1 d10 cl (by decide) (by decide) fun v m11 v0 v1 d11 => ?_
            obtain ⟨b', hib, x1, x4⟩ : ∃ (b' : Option Int), (∀ m, opIx m (.lst [.non, .int (q + 1), .int (q + 1 + u)]) (.int v) = some (opt b')) ∧ leO (q + 1) b' = true ∧ ∀ p, b' = some p → p ≤ 1000000000000 + 10 * ((L.length : Int) + 1) := by
              obtain ⟨u0, u1⟩ := bu
              obtain ⟨q0, q1⟩ := bq
              have : v = 0 ∨ v = 1 ∨ v = 2 := by omega
              rcases this with rfl | rfl | rfl
              · exact ⟨none, fun _ => rfl, rfl, fun _ e => nomatch e⟩
              · exact ⟨some (q + 1), fun _ => rfl, leO_some.mpr (Int.le_refl _), fun p e => by cases e; omega⟩
              · exact ⟨some (q + 1 + u), fun _ => rfl, leO_some.mpr (by omega), fun p e => by cases e; omega⟩
            have bo4 : id _ := And.intro x1 x4
            have k11 := al' m11 d11 (.lst (foursD L))
            have s11 := sl' m11 d11 (.lst (foursD L))
            clear x1 x4 v0 v1
            trivial
            obtain ⟨s1, s2, s3, s4⟩ := bo3
            obtain ⟨t2, t4⟩ := bo4
            obtain ⟨q0, q1⟩ := bq
            exact app' (q + 1) l' b' r' m11 _ _ d11 (by omega) s1 t2 s2 ⟨by show q + 1 ≤ _; omega, by show l' ≤ _; omega, fun p e => t4 p e, fun q e => by have := s4 q e; omega⟩
          · trivial
            obtain ⟨t1, t2, t3, t4⟩ := bo1
            obtain ⟨s1, s2, s3, s4⟩ := bo3
            exact app' t l' b r' m9 _ _ d9 t1 s1 t2 s2 ⟨by show t ≤ _; omega, by show l' ≤ _; omega, fun q e => by have := t4 q e; omega, fun q e => by have := s4 q e; omega⟩
      · trivial
        obtain ⟨t1, t2, t3, t4⟩ := bo1
        obtain ⟨s1, s2, s3, s4⟩ := bo2
        exact app' t l b r m6 _ _ d6 t1 s1 t2 s2 ⟨by show t ≤ _; omega, by show l ≤ _; omega, fun q e => by have := t4 q e; omega, fun q e => by have := s4 q e; omega⟩
end
end PG
namespace PG
open PySem PySem.Spec PyProof.Rows L2 DL
section
variable {μ : List M}
theorem by0 : bIsX (["NoCell", "NoColumn", "NoBlock"] : List Str) (.inr "NoCell") μ [.exc "NoCell" [] [], .glo "NoCell"] = some (.bl true) := by with_unfolding_all rfl
theorem by1 : bIsX (["NoCell", "NoColumn", "NoBlock"] : List Str) (.inr "NoArea") μ [.exc "NoCell" [] [], .glo "NoArea"] = some (.bl false) := by with_unfolding_all rfl
theorem by2 : bIsX (["NoCell", "NoColumn", "NoBlock"] : List Str) (.inr "NoBlock") μ [.exc "NoCell" [] [], .glo "NoBlock"] = some (.bl false) := by with_unfolding_all rfl
theorem by3 : bIsX (["NoCell", "NoColumn", "NoBlock"] : List Str) (.inr "NoNumber") μ [.exc "NoCell" [] [], .glo "NoNumber"] = some (.bl false) := by with_unfolding_all rfl
theorem eqY : opEq μ (.lst [.bl true, .bl false, .bl false, .bl false]) (.lst [.bl true, .bl false, .bl false, .bl false]) = some (.bl true) := by with_unfolding_all rfl
theorem cx12 : (["NoCell", "NoColumn", "NoBlock"] : List Str).contains "NoCell" = true := by with_unfolding_all rfl
theorem ex12 : exSub "NoCell" (.inr "CellError") = true := by with_unfolding_all rfl
end
local macro_rules | `(tactic| trivial) => `(tactic| simp (config := { dsimp := false }) only [*, eq_self, DL.w_ok, DL.w_ex, DL.w_bind, DL.w_bindS, DL.o_some, DL.w_dC, DL.w_var, DL.w_op, DL.a_nil, DL.a_cons, DL.w_tup, DL.w_lst, DL.w_blt, DL.w_call, DL.w_callN, DL.w_or, DL.w_and, DL.w_not, DL.w_neg, DL.w_if, DL.w_chain, DL.t_tru, DL.t_tst, DL.t_and, DL.t_or, DL.t_not, DL.p_no, DL.p_some, DL.w_slc, DL.w_m1, DL.w_m0, DL.w_fld, DL.s_nil, DL.s_brk, DL.s_cnt, DL.s_retN, DL.s_raise, DL.s_seq, DL.s_ret, DL.s_exp, DL.s_if, DL.s_set, DL.s_new, DL.s_cel, DL.s_retC, DL.s_par, DL.s_asg, DL.e_add, DL.e_sub, DL.e_mulR, DL.e_mulL, DL.e_modS, DL.e_divS, DL.e_pow, DL.e_lt, DL.e_le, DL.e_gt, DL.e_ge, DL.e_is, DL.e_isN, DL.e_eqI, DL.e_neI, DL.e_eqS, DL.e_neS, DL.h_bl, DL.h_int, DL.h_non, DL.b_bl, DL.i_int, DL.s_str, DL.l_lst, DL.q_lst, DL.q_tup, DL.c_lst, DL.c_seq, DL.c_lis, DL.x_cel, DL.x_lst, DL.x_tup, DL.at_nn, DL.ix_in, DL.p_cel, DL.e_mulIf, DL.e_mulM, DL.t_len, DL.t_intB, DL.start, DL.s_setIx, DL.s_for, DL.i_rng, DL.i_rng2, DL.w_lc, DL.r_one, DL.s_app, DL.g_cel, DL.w_dct0, DL.w_meth, DL.isC_obj, DL.w_make, DL.w_pick, DL.pick_cons, DL.pick_nil, DL.w_own, DL.w_ne, DL.w_obS, DL.cls_obj, DL.fld_obj, DL.w_fmt, DL.w_fs, DL.w_fsNil, DL.w_fsCons, DL.w_isT, DL.w_revA, DL.s_try, DL.s_raiseI, DL.s_tryP, DL.s_endX, DL.w_isXT, DL.i_any, DL.ia_tup, DL.ia_str, DL.ia_lst, DL.ia_scr, DL.ia_cel, DL.gl_glo, DL.w_callA, DL.s_tryN, DL.s_never, DL.s_fld, DL.w_listN, DL.g_seq, DL.g_cons, DL.g_nil, DL.g_nm, DL.t_yes, DL.wipe_cons, DL.wipe_nil, DL.nn_non, DL.nn_int, DL.nn_str, DL.nn_bl, DL.nn_tup, DL.nn_lst, DL.w_fmR, DL.w_owns, DL.w_nes, DL.w_obSs, DL.w_meths, DL.w_xf, DL.i_zip, DL.w_revB, DL.s_new2, DL.w_callN2, DL.s_dct, DL.s_setd, DL.s_popk, DL.s_ext, DL.w_itT, DL.i_itT, DL.i_enum, DL.w_lock, DL.w_sortSet, DL.w_sortK, List.map_cons, List.map_nil, List.length_cons, List.length_nil, List.cons_append, List.nil_append, List.append_nil, List.drop_zero, List.drop_nil, List.drop_succ_cons, List.getElem?_cons_zero, List.getElem?_cons_succ, List.set_cons_zero, List.set_cons_succ, List.replicate_succ, List.replicate_zero, Option.join_some, Option.map_some, if_true, if_false, Bool.not_true, Bool.not_false, true_and, and_true, Nat.reduceAdd, Nat.reduceSub, Nat.reduceLeDiff, decide_true, decide_false, Bool.false_eq_true, Option.bind_some, Int.reduceToNat, List.getElem?_set_self, Int.reduceLT, Int.reduceLE, Int.reduceNeg, Int.reduceSub, Int.reduceAdd, Int.reduceMul, Int.reducePow, Nat.reduceLT, Int.reduceEq, ite_self, optN, optS, c_blk, f_form, c_area, is_ahas, by0, by1, by2, by3, eqY, cx12, ex12, PG.dfl_Area_has, PG.dfl_Block_init__, PG.dfl_is_count, PG.dfl_is_end, PG.dfl_law_has_k12, PG.dfl_law_made_k12, PG.dfl_law_near_k12, PG.dfl_law_next, PG.dfl_law_refused_k12])
section
variable {μ m : List M} {i : Nat} {L F : List Blk} {d : D} {r c : Int}
theorem made_ok (hc : Cln μ) (hl : L.length ≤ 100000) (hok : AllOk L) : G_law_made_k12 [.lst (foursD L)] μ = .ok (blksD L) μ := by
  apply eq_ok
  unfold G_law_made_k12
  refine wo_fn rfl ?_
  unfold D_law_made_k12 blksD
  have c1 : lcGo (fun _ => True) (gSeq 4 (gsCons (gNm 1) (gsCons (gNm 2) (gsCons (gNm 3) (gsCons (gNm 4) gsNil))))) tYes' (dMake "Block" 5 G_Block_init__ [] (aCons (dVar 1) (aCons (dVar 2) (aCons (dVar 3) (aCons (dVar 4) aNil))))) [some (.lst (foursD L)), none, none, none, none] (foursD L) μ [] = .ok (L.map blkD) μ := by
    rw [lc_map (fun x => match x with | .tup [.int t, .int l, b, r] => blkD ⟨t, l, unO b, unO r⟩ | _ => .non) ⟨⟩ (foursD L) (fun x hx => by
      obtain ⟨b, mb, rfl⟩ := List.mem_map.mp hx
      refine ⟨_, rfl, ?_⟩
      show _ = Out.ok (blkD ⟨b.t, b.l, unO (opt b.b), unO (opt b.r)⟩) μ
      rw [unO_opt, unO_opt]
      have mk := x_make (b := b) hc (hok b mb)
      apply eq_ok
      show WO (dMake "Block" 5 G_Block_init__ [] (aCons (dVar 1) (aCons (dVar 2) (aCons (dVar 3) (aCons (dVar 4) aNil)))) [some (.lst (foursD L)), some (.int b.t), some (.int b.l), some (opt b.b), some (opt b.r)] μ) _ _ ⟨⟩
      clear hok
      trivial
      all_goals rfl) (by unfold foursD; rw [List.length_map]; exact hl)]
    unfold foursD
    rw [List.map_map]
    congr 1
    apply List.map_congr_left
    intro b _
    show blkD ⟨b.t, b.l, unO (opt b.b), unO (opt b.r)⟩ = _
    rw [unO_opt, unO_opt]
  clear hl hok
  trivial
  exact fr_same hc clean_blks ⟨rfl, rfl⟩
theorem lhas_ok (hc : Cln μ) : G_law_has_k12 [.lst (foursD L), .int r, .int c] μ = .ok (.bl (L.any (hasB · r c))) μ := by
  apply eq_ok
  unfold G_law_has_k12
  refine wo_fn rfl ?_
  unfold D_law_has_k12
  have fin : ∀ b : Bool, b = L.any (hasB · r c) → FR μ.length μ (.bl b) (fun x m' => x = .bl (L.any (hasB · r c)) ∧ m' = μ) := fun b e => by rw [e]; exact fr_same hc rfl ⟨rfl, rfl⟩
  trivial
  refine s_forGo (fun xs e m => ∃ (rest : List Blk) (e3 e4 e5 e6 : Option D), xs = foursD rest ∧ rest.any (hasB · r c) = L.any (hasB · r c) ∧ e = [some (.lst (foursD L)), some (.int r), some (.int c), e3, e4, e5, e6] ∧ m = μ) ?_ ?_ _ _ _ ⟨L, none, none, none, none, rfl, rfl, rfl, rfl⟩
  · rintro e m ⟨rest, e3, e4, e5, e6, h1, h2, rfl, rfl⟩
    refine ⟨⟨⟩, ?_⟩
    cases rest with
    | cons _ _ => cases h1
    | nil =>
      have f := fin false h2
      clear fin h2
      trivial
  · rintro x xs e m ⟨rest, e3, e4, e5, e6, h1, h2, rfl, rfl⟩
    refine ⟨⟨⟩, ?_⟩
    cases rest with
    | nil => cases h1
    | cons b rest =>
      cases h1
      have gs : ∀ (e9 : En) (m : List M), gSeq 4 (gsCons (gNm 3) (gsCons (gNm 4) (gsCons (gNm 5) (gsCons (gNm 6) gsNil)))) (four b) e9 m = some ((((e9.set 3 (some (.int b.t))).set 4 (some (.int b.l))).set 5 (some (opt b.b))).set 6 (some (opt b.r))) := fun _ _ => rfl
      rw [gs]
      show WS _ _ _ _ _ _ ⟨⟩
      rw [List.any_cons] at h2
      have yes : hasB b r c = true → FR m.length m (.bl true) (fun x m' => x = .bl (L.any (hasB · r c)) ∧ m' = m) := fun h => fin true (by rw [h] at h2; exact h2)
      have no : hasB b r c = false → ∀ x5 x6 : D, ∃ (rest' : List Blk) (f3 f4 f5 f6 : Option D), foursD rest = foursD rest' ∧ rest'.any (hasB · r c) = L.any (hasB · r c) ∧ [some (.lst (foursD L)), some (.int r), some (.int c), some (.int b.t), some (.int b.l), some x5, some x6] = [some (.lst (foursD L)), some (.int r), some (.int c), f3, f4, f5, f6] := fun h x5 x6 => ⟨rest, _, _, _, _, rfl, by rw [h] at h2; exact h2, rfl⟩
      clear gs fin h2 hc
      by_cases h1 : b.t ≤ r
      · by_cases h2 : b.l ≤ c
        · cases hb : b.b with
          | none =>
            have zn : isNn (opt none) = true := rfl
            cases hr : b.r with
            | none =>
              have zm : isNn (opt none) = true := rfl
              have y := yes (by unfold hasB; simp [h1, h2, hb, hr, leO])
              clear yes no hb hr
              trivial
            | some p =>
              have zm : isNn (opt (some p)) = false := rfl
              have zl : ∀ m, opLe m (.int c) (opt (some p)) = some (.bl (decide (c ≤ p))) := fun _ => rfl
              by_cases h4 : c ≤ p
              · have y := yes (by unfold hasB; simp [h1, h2, hb, hr, leO, h4])
                clear yes no hb hr
                trivial
              · have y := no (by unfold hasB; simp [h1, h2, hb, hr, leO, h4])
                clear yes no hb hr
                trivial
                exact y _ _
          | some q =>
            have zn : isNn (opt (some q)) = false := rfl
            have zq : ∀ m, opLe m (.int r) (opt (some q)) = some (.bl (decide (r ≤ q))) := fun _ => rfl
            by_cases h3 : r ≤ q
            · cases hr : b.r with
              | none =>
                have zm : isNn (opt none) = true := rfl
                have y := yes (by unfold hasB; simp [h1, h2, hb, hr, leO, h3])
                clear yes no hb hr
                trivial
              | some p =>
                have zm : isNn (opt (some p)) = false := rfl
                have zl : ∀ m, opLe m (.int c) (opt (some p)) = some (.bl (decide (c ≤ p))) := fun _ => rfl
                by_cases h4 : c ≤ p
                · have y := yes (by unfold hasB; simp [h1, h2, hb, hr, leO, h4, h3])
                  clear yes no hb hr
                  trivial
                · have y := no (by unfold hasB; simp [h1, h2, hb, hr, leO, h4, h3])
                  clear yes no hb hr
                  trivial
                  exact y _ _
            · have y := no (by unfold hasB; simp [h1, h2, hb, leO, h3])
              clear yes no hb
              trivial
              exact y _ _
        · have y := no (by unfold hasB; simp [h1, h2])
          clear yes no
          trivial
          exact y _ _
      · have y := no (by unfold hasB; simp [h1])
        clear yes no
        trivial
        exact y _ _
theorem near_k {a : Int} {o : Option Int} {Q : D → List M → Prop} {X : XP} (h : Dr μ i m) (ha : 1 ≤ a) (ha2 : a ≤ 2000000000000) (ho : ∀ q, o = some q → 1 ≤ q ∧ q ≤ 2000000000000) (k : ∀ r m', 1 ≤ r → r ≤ 3000000000000 → Dr μ i m' → Q (.int r) m') : WO (G_law_near_k12 [.cel i, .lst [.int a, opt o]] m) Q X ⟨⟩ := by
  refine WO.use (Q' := fun x m' => ∃ r, x = .int r ∧ 1 ≤ r ∧ r ≤ 3000000000000 ∧ Dr μ i m') (k' := ⟨⟩) ?_ (by rintro x m' ⟨r, rfl, h1, h2, h3⟩; exact k r m' h1 h2 h3)
  clear k
  unfold G_law_near_k12
  refine wo_fn rfl ?_
  unfold D_law_near_k12
  obtain ⟨ns, n1, n2, lc⟩ : ∃ ns : List Int, ns.length ≤ 2 ∧ (∀ x ∈ ns, 1 ≤ x ∧ x ≤ 2000000000000) ∧
      lcGo (fun _ => True) (gNm 3) (dTst (dOp opIsN (dVar 3) (dC .non))) (dVar 3) [some (.cel i), some (.lst [.int a, opt o]), none, none, none, none] [.int a, opt o] m [] = .ok (ns.map .int) m := by
    cases o with
    | none =>
      refine ⟨[a], by show 1 ≤ 2; decide, fun x hx => by rw [List.mem_singleton.mp hx]; exact ⟨ha, ha2⟩, ?_⟩
      exact lc_pure (fun x => !isNn x) id ⟨⟩ [.int a, .non] [] (fun x hx => by
        rcases List.mem_cons.mp hx with rfl | hx
        · exact ⟨_, rfl, rfl, fun _ => rfl⟩
        · rw [List.mem_singleton.mp hx]
          exact ⟨_, rfl, rfl, fun z => nomatch z⟩) (by show 0 + 2 ≤ _; omega)
    | some q =>
      refine ⟨[a, q], by show 2 ≤ 2; decide, fun x hx => by
        rcases List.mem_cons.mp hx with rfl | hx
        · exact ⟨ha, ha2⟩
        · rw [List.mem_singleton.mp hx]; exact ho q rfl, ?_⟩
      exact lc_pure (fun x => !isNn x) id ⟨⟩ [.int a, .int q] [] (fun x hx => by
        rcases List.mem_cons.mp hx with rfl | hx
        · exact ⟨_, rfl, rfl, fun _ => rfl⟩
        · rw [List.mem_singleton.mp hx]
          exact ⟨_, rfl, rfl, fun _ => rfl⟩) (by show 0 + 2 ≤ _; omega)
  have ad : opAdd m (.lst (ns.map D.int)) (.lst [.int 1]) = some (.lst ((ns ++ [1]).map D.int)) := by
    rw [e_addL l_lst l_lst, if_pos (by rw [List.length_map]; show _ + 1 ≤ _; omega), List.map_append]; rfl
  have n3 : ∀ x ∈ ns ++ [1], 1 ≤ x ∧ x ≤ 2000000000000 := fun x hx => by
    rcases List.mem_append.mp hx with hx | hx
    · exact n2 x hx
    · rw [List.mem_singleton.mp hx]; exact ⟨by decide, by decide⟩
  have n4 : 1 ≤ (ns ++ [1]).length ∧ (ns ++ [1]).length ≤ 3 := by rw [List.length_append]; show 1 ≤ _ + 1 ∧ _ + 1 ≤ 3; omega
  clear ha ha2 ho n1 n2
  generalize ns ++ [1] = S at *
  have mx : ∀ (m : List M) (a : Int), bMax m [.int 1, .int a] = some (.int (if 1 < a then a else 1)) := fun _ _ => rfl
  have ln : ∀ m, bLen m [.lst (S.map D.int)] = some (.int S.length) := fun m => by rw [t_len q_lst, List.length_map]
  have hs := h.self
  have n3' : id _ := n3
  have n4' : id _ := n4
  have h' : id _ := h
  clear n3 n4 h
  trivial
  refine next_k hs (by decide) (by decide) fun f m1 f0 f1 d1 => ?_
  have bf : id (0 ≤ f ∧ f < 100000000000) := ⟨f0, f1⟩
  clear f0 f1
  trivial
  refine next_k d1 (by have := n4'.1; show (0 : Int) < (S.length : Int); exact Int.ofNat_lt.mpr n4'.1) (by have := n4'.2; omega) fun z m2 z0 z1 d2 => ?_
  obtain ⟨y, my, ey⟩ : ∃ y, y ∈ S ∧ ∀ m, opIx m (.lst (S.map D.int)) (.int z) = some (.int y) := by
    have hz : z.toNat < S.length := by omega
    refine ⟨S[z.toNat], List.getElem_mem hz, fun m => ?_⟩
    show atI (S.map D.int) z = _
    rw [at_nn z0, List.getElem?_map, List.getElem?_eq_getElem hz]; rfl
  have by_ : id _ := n3' y my
  clear z0 z1 my
  trivial
  refine next_k d2 (by decide) (by decide) fun v m3 v0 v1 d3 => ?_
  obtain ⟨w, ew, bw⟩ : ∃ w : Int, (∀ m, opIx m (.lst [.int y, .int (y - 1), .int (y + 1), .int (1 + f)]) (.int v) = some (.int w)) ∧ w ≤ 3000000000000 := by
    obtain ⟨f0, f1⟩ := bf
    obtain ⟨y0, y1⟩ := by_
    have : v = 0 ∨ v = 1 ∨ v = 2 ∨ v = 3 := by omega
    rcases this with rfl | rfl | rfl | rfl
    · exact ⟨_, fun _ => rfl, by omega⟩
    · exact ⟨_, fun _ => rfl, by omega⟩
    · exact ⟨_, fun _ => rfl, by omega⟩
    · exact ⟨_, fun _ => rfl, by omega⟩
  have bw' : id _ := bw
  clear v0 v1 bw
  trivial
  exact d3.fr rfl ⟨_, rfl, by split <;> omega, by have : w ≤ 3000000000000 := bw'; split <;> omega, h'.trans d3⟩
theorem refused_ok (hc : Cln μ) (h1 : knC d = true) (h2 : cellD d = false) (h3 : clean 0 d = true) : G_law_refused_k12 [areaD F, d] μ = .ok (.bl true) μ := by
  apply eq_ok
  unfold G_law_refused_k12
  refine wo_fn rfl ?_
  unfold D_law_refused_k12
  have e1 := x_ahasNo (F := F) hc h1 h2
  have nm := cln_noX hc
  have ev : (List.all [some (areaD F), some d, none, some (.lst [.bl true, .bl false, .bl false, .bl false])] noXO && μ.all noXM) = true := by
    rw [nm]
    show ((noX (areaD F) && (noX d && (true && (true && true)))) && true) = true
    rw [noX_clean d h3, noX_clean (areaD F) clean_area]
    rfl
  have nr : (noX (.bl true) && μ.all noXM) = true := by rw [nm]; rfl
  clear h1 h2 h3 nm
  trivial
  exact fr_same hc rfl ⟨rfl, rfl⟩
end
end PG
namespace PG
open PySem PySem.Spec PyProof.Rows L2 DL
local macro_rules | `(tactic| trivial) => `(tactic| simp (config := { dsimp := false }) only [*, eq_self, DL.w_ok, DL.w_ex, DL.w_bind, DL.w_bindS, DL.o_some, DL.w_dC, DL.w_var, DL.w_op, DL.a_nil, DL.a_cons, DL.w_tup, DL.w_lst, DL.w_blt, DL.w_call, DL.w_callN, DL.w_or, DL.w_and, DL.w_not, DL.w_neg, DL.w_if, DL.w_chain, DL.t_tru, DL.t_tst, DL.t_and, DL.t_or, DL.t_not, DL.p_no, DL.p_some, DL.w_slc, DL.w_m1, DL.w_m0, DL.w_fld, DL.s_nil, DL.s_brk, DL.s_cnt, DL.s_retN, DL.s_raise, DL.s_seq, DL.s_ret, DL.s_exp, DL.s_if, DL.s_set, DL.s_new, DL.s_cel, DL.s_retC, DL.s_par, DL.s_asg, DL.e_add, DL.e_sub, DL.e_mulR, DL.e_mulL, DL.e_modS, DL.e_divS, DL.e_pow, DL.e_lt, DL.e_le, DL.e_gt, DL.e_ge, DL.e_is, DL.e_isN, DL.e_eqI, DL.e_neI, DL.e_eqS, DL.e_neS, DL.h_bl, DL.h_int, DL.h_non, DL.b_bl, DL.i_int, DL.s_str, DL.l_lst, DL.q_lst, DL.q_tup, DL.c_lst, DL.c_seq, DL.c_lis, DL.x_cel, DL.x_lst, DL.x_tup, DL.at_nn, DL.ix_in, DL.p_cel, DL.e_mulIf, DL.e_mulM, DL.t_len, DL.t_intB, DL.start, DL.s_setIx, DL.s_for, DL.i_rng, DL.i_rng2, DL.w_lc, DL.r_one, DL.s_app, DL.g_cel, DL.w_dct0, DL.w_meth, DL.isC_obj, DL.w_make, DL.w_pick, DL.pick_cons, DL.pick_nil, DL.w_own, DL.w_ne, DL.w_obS, DL.cls_obj, DL.fld_obj, DL.w_fmt, DL.w_fs, DL.w_fsNil, DL.w_fsCons, DL.w_isT, DL.w_revA, DL.s_try, DL.s_raiseI, DL.s_tryP, DL.s_endX, DL.w_isXT, DL.i_any, DL.ia_tup, DL.ia_str, DL.ia_lst, DL.ia_scr, DL.ia_cel, DL.gl_glo, DL.w_callA, DL.s_tryN, DL.s_never, DL.s_fld, DL.w_listN, DL.g_seq, DL.g_cons, DL.g_nil, DL.g_nm, DL.t_yes, DL.wipe_cons, DL.wipe_nil, DL.nn_non, DL.nn_int, DL.nn_str, DL.nn_bl, DL.nn_tup, DL.nn_lst, DL.w_fmR, DL.w_owns, DL.w_nes, DL.w_obSs, DL.w_meths, DL.w_xf, DL.i_zip, DL.w_revB, DL.s_new2, DL.w_callN2, DL.s_dct, DL.s_setd, DL.s_popk, DL.s_ext, DL.w_itT, DL.i_itT, DL.i_enum, DL.w_lock, DL.w_sortSet, DL.w_sortK, List.map_cons, List.map_nil, List.length_cons, List.length_nil, List.cons_append, List.nil_append, List.append_nil, List.drop_zero, List.drop_nil, List.drop_succ_cons, List.getElem?_cons_zero, List.getElem?_cons_succ, List.set_cons_zero, List.set_cons_succ, List.replicate_succ, List.replicate_zero, Option.join_some, Option.map_some, if_true, if_false, Bool.not_true, Bool.not_false, true_and, and_true, Nat.reduceAdd, Nat.reduceSub, Nat.reduceLeDiff, decide_true, decide_false, Bool.false_eq_true, Option.bind_some, Int.reduceToNat, List.getElem?_set_self, Int.reduceLT, Int.reduceLE, Int.reduceNeg, Int.reduceSub, Int.reduceAdd, Int.reduceMul, Int.reducePow, Nat.reduceLT, Int.reduceEq, ite_self, optN, optS, c_blk, c_area, is_ahas, PG.dfl_law_cell_at])
/-- what is no cell -/
structure NoCel (d : D) : Prop where
  kn : knC d = true
  no : cellD d = false
  cl : clean 0 d = true
def oddA (r c : Int) : List D := [.non, .int r, .lst [.int r, .int c], .tup [.int r], .tup [.int r, .int c, .int 1], .tup [.int r, .non], .tup [.bl true, .int c], .tup [.int r, .bl true], .str "A1"]
def oddC (r c : Int) : List D := [.tup [.int 0, .int c], .tup [.int r, .int 0], .tup [.int (0 - r), .int c], .tup [.str (toString r), .int c], .tup [.tup [.int r, .int c]], blkD ⟨1, 1, none, none⟩, .dct [] []]
section
variable {μ m : List M} {i : Nat} {L F : List Blk} {d : D} {r c : Int} {ns : List Int}
theorem odd_no (hr : 1 ≤ r) : ∀ d ∈ oddA r c ++ oddC r c, NoCel d := by
  intro d hd
  have neg : decide (1 ≤ 0 - r) = false := decide_eq_false (by omega)
  unfold oddA oddC at hd
  simp only [List.cons_append, List.nil_append, List.mem_cons, List.not_mem_nil, or_false] at hd
  rcases hd with rfl | rfl | rfl | rfl | rfl | rfl | rfl | rfl | rfl | rfl | rfl | rfl | rfl | rfl | rfl | rfl
  all_goals first
    | exact ⟨rfl, rfl, rfl⟩
    | exact ⟨rfl, (by show (true && (cnt (.int r) && (false && true))) = false; rw [Bool.false_and, Bool.and_false]; rfl), rfl⟩
    | exact ⟨rfl, (by show (true && (decide (1 ≤ 0 - r) && (cnt (.int c) && true))) = false; rw [neg]; rfl), rfl⟩
theorem odd_ix12 {z : Int} (hr : 1 ≤ r) (h0 : 0 ≤ z) (h1 : z < 16) : ∃ d, NoCel d ∧ ∀ m, opIx m (.lst (oddA r c ++ oddC r c)) (.int z) = some d := by
  have hz : z.toNat < (oddA r c ++ oddC r c).length := by show _ < 16; omega
  refine ⟨_, odd_no hr _ (List.getElem_mem hz), fun m => ?_⟩
  show atI (oddA r c ++ oddC r c) z = _
  rw [at_nn h0, List.getElem?_eq_getElem hz]
theorem cut12 (hn : ns.length ≤ 63) : ∃ as : List Int, slc m (some 1) (some 21) (.scr ns) = some (.lst (as.map D.int)) ∧ as.length ≤ 63 := by
  refine ⟨(ns.drop (HT.sIx ns.length 0 (some 1))).take (HT.sIx ns.length ns.length (some 21) - HT.sIx ns.length 0 (some 1)), ?_, ?_⟩
  · show some (D.lst (cutL (ns.map D.int) (some 1) (some 21))) = _
    unfold cutL
    rw [List.map_take, List.map_drop, List.length_map]
  · rw [List.length_take, List.length_drop]
    omega
theorem cell_at12 (hc : Cln μ) : ∃ c : Int, G_law_cell_at [.scr ns, .int 0] μ = .ok (.int c) μ := by
  suffices h : WO (G_law_cell_at [.scr ns, .int 0] μ) (fun x m => ∃ r, x = .int r ∧ m = μ) xNo ⟨⟩ by
    obtain ⟨x, m, e, r, rfl, rfl⟩ := h.ex_
    exact ⟨r, e⟩
  unfold G_law_cell_at
  refine wo_fn rfl ?_
  unfold D_law_cell_at
  have ln : bLen μ [.scr ns] = some (.int ns.length) := by rw [t_len (show seqOf μ (.scr ns) = some (ns.map D.int) from rfl), List.length_map]
  cases ns with
  | nil =>
    have n0 : decide ((0 : Int) < (([] : List Int).length : Int)) = false := rfl
    have ln : bLen μ [.scr []] = some (.int 0) := ln
    trivial
    rw [if_neg (by decide)]
    exact fr_same hc rfl ⟨_, rfl, rfl⟩
  | cons n ns =>
    have n0 : (0 : Int) < ((ns.length + 1 : Nat) : Int) := by omega
    have ix : opIx μ (.scr (n :: ns)) (.int 0) = some (.int n) := by
      show atI ((n :: ns).map D.int) 0 = _
      rw [at_nn (by decide)]; rfl
    trivial
    exact fr_same hc rfl ⟨_, rfl, rfl⟩
theorem eq_bls {l : List Bool} (h : l.length ≤ 1000) : opEq m (.lst (l.map D.bl)) (.lst (l.map D.bl)) = some (.bl true) := by
  have pl : plains (l.map D.bl) = true := by
    clear h
    induction l with
    | nil => rfl
    | cons b l ih => exact ih
  have de : deps (l.map D.bl) = 0 := by
    clear h pl
    induction l with
    | nil => rfl
    | cons b l ih => show max 0 (deps (l.map D.bl)) = 0; rw [ih]; rfl
  have eq : eqBs (l.map D.bl) (l.map D.bl) = true := by
    clear h pl de
    induction l with
    | nil => rfl
    | cons b l ih => show ((b == b) && eqBs (l.map D.bl) (l.map D.bl)) = true; rw [ih]; cases b <;> rfl
  show (if eqOk (.lst (l.map D.bl)) (.lst (l.map D.bl)) = true then some (D.bl (eqBs (l.map D.bl) (l.map D.bl))) else none) = _
  rw [eq, if_pos]
  show (plains _ && (plains _ && (decide (deps _ + 1 ≤ 64) && decide (deps _ + 1 ≤ 64)))) = true
  rw [pl, de]; rfl
end
end PG
namespace PG
open PySem PySem.Spec PyProof.Rows L2 DL
local macro_rules | `(tactic| trivial) => `(tactic| simp (config := { dsimp := false }) only [*, eq_self, DL.w_ok, DL.w_ex, DL.w_bind, DL.w_bindS, DL.o_some, DL.w_dC, DL.w_var, DL.w_op, DL.a_nil, DL.a_cons, DL.w_tup, DL.w_lst, DL.w_blt, DL.w_call, DL.w_callN, DL.w_or, DL.w_and, DL.w_not, DL.w_neg, DL.w_if, DL.w_chain, DL.t_tru, DL.t_tst, DL.t_and, DL.t_or, DL.t_not, DL.p_no, DL.p_some, DL.w_slc, DL.w_m1, DL.w_m0, DL.w_fld, DL.s_nil, DL.s_brk, DL.s_cnt, DL.s_retN, DL.s_raise, DL.s_seq, DL.s_ret, DL.s_exp, DL.s_if, DL.s_set, DL.s_new, DL.s_cel, DL.s_retC, DL.s_par, DL.s_asg, DL.e_add, DL.e_sub, DL.e_mulR, DL.e_mulL, DL.e_modS, DL.e_divS, DL.e_pow, DL.e_lt, DL.e_le, DL.e_gt, DL.e_ge, DL.e_is, DL.e_isN, DL.e_eqI, DL.e_neI, DL.e_eqS, DL.e_neS, DL.h_bl, DL.h_int, DL.h_non, DL.b_bl, DL.i_int, DL.s_str, DL.l_lst, DL.q_lst, DL.q_tup, DL.c_lst, DL.c_seq, DL.c_lis, DL.x_cel, DL.x_lst, DL.x_tup, DL.at_nn, DL.ix_in, DL.p_cel, DL.e_mulIf, DL.e_mulM, DL.t_len, DL.t_intB, DL.start, DL.s_setIx, DL.s_for, DL.i_rng, DL.i_rng2, DL.w_lc, DL.r_one, DL.s_app, DL.g_cel, DL.w_dct0, DL.w_meth, DL.isC_obj, DL.w_make, DL.w_pick, DL.pick_cons, DL.pick_nil, DL.w_own, DL.w_ne, DL.w_obS, DL.cls_obj, DL.fld_obj, DL.w_fmt, DL.w_fs, DL.w_fsNil, DL.w_fsCons, DL.w_isT, DL.w_revA, DL.s_try, DL.s_raiseI, DL.s_tryP, DL.s_endX, DL.w_isXT, DL.i_any, DL.ia_tup, DL.ia_str, DL.ia_lst, DL.ia_scr, DL.ia_cel, DL.gl_glo, DL.w_callA, DL.s_tryN, DL.s_never, DL.s_fld, DL.w_listN, DL.g_seq, DL.g_cons, DL.g_nil, DL.g_nm, DL.t_yes, DL.wipe_cons, DL.wipe_nil, DL.nn_non, DL.nn_int, DL.nn_str, DL.nn_bl, DL.nn_tup, DL.nn_lst, DL.w_fmR, DL.w_owns, DL.w_nes, DL.w_obSs, DL.w_meths, DL.w_xf, DL.i_zip, DL.w_revB, DL.s_new2, DL.w_callN2, DL.s_dct, DL.s_setd, DL.s_popk, DL.s_ext, DL.w_itT, DL.i_itT, DL.i_enum, DL.w_lock, DL.w_sortSet, DL.w_sortK, List.map_cons, List.map_nil, List.length_cons, List.length_nil, List.cons_append, List.nil_append, List.append_nil, List.drop_zero, List.drop_nil, List.drop_succ_cons, List.getElem?_cons_zero, List.getElem?_cons_succ, List.set_cons_zero, List.set_cons_succ, List.replicate_succ, List.replicate_zero, Option.join_some, Option.map_some, if_true, if_false, Bool.not_true, Bool.not_false, true_and, and_true, Nat.reduceAdd, Nat.reduceSub, Nat.reduceLeDiff, decide_true, decide_false, Bool.false_eq_true, Option.bind_some, Int.reduceToNat, List.getElem?_set_self, Int.reduceLT, Int.reduceLE, Int.reduceNeg, Int.reduceSub, Int.reduceAdd, Int.reduceMul, Int.reducePow, Nat.reduceLT, Int.reduceEq, ite_self, optN, optS, c_blk, c_area, is_ahas, PG.dfl_Area_has, PG.dfl_Area_init__, PG.dfl_Block_has, PG.dfl_Block_init__, PG.dfl_checked_cell, PG.dfl_is_count, PG.dfl_is_end, PG.dfl_law_cell_at, PG.dfl_law_drawn, PG.dfl_law_has_k12, PG.dfl_law_k12, PG.dfl_law_made_k12, PG.dfl_law_near_k12, PG.dfl_law_next, PG.dfl_law_refused_k12, PG.dfl_law_source])
/-- a fact kept out of simp's sight -/
structure Hide12 (p : Prop) : Prop where
  out : p
def odd12 (r c : Int) : List D := oddA r c ++ oddC r c
def one12 : Blk := ⟨1, 1, some 1, some 1⟩
section
variable {μ m : List M} {i n : Nat} {L F : List Blk} {d : D} {r c : Int} {ns : List Int} {cs : List (Int × Int)}
theorem str12 (h1 : 1 ≤ r) (h2 : r ≤ 3000000000000) : bStr2 m [.int r] = some (.str (toString r)) := by
  have h : r.natAbs.log2 < 1920 := by
    have h0 : r.natAbs ≠ 0 := by omega
    refine (Nat.log2_lt h0).mpr (Nat.lt_of_lt_of_le (show r.natAbs < 2 ^ 42 by have : (2 : Nat) ^ 42 = 4398046511104 := rfl; omega) (Nat.pow_le_pow_right (by decide) (by decide)))
  show (if r.natAbs.log2 < 1920 then some (D.str (toString r)) else none) = _
  rw [if_pos h]
theorem add_one : opAdd m (.lst (foursD L)) (.lst [.tup [.int 1, .int 1, .int 1, .int 1]]) = if L.length + 1 ≤ 100000 then some (.lst (foursD (L ++ [one12]))) else none := by
  rw [e_addL l_lst l_lst]
  unfold foursD
  rw [List.length_map, List.map_append]; rfl
theorem has_comp {g : List M → Prop} {e : En} (hg : g m) (hc : Cln m) (hL : AllOk L) (hl : L.length ≤ 140) (hs : ∀ p ∈ cs, 1 ≤ p.1 ∧ 1 ≤ p.2) (hn : cs.length ≤ 1000) (he : ∀ x, (e.set 12 (some x))[3]? = some (some (areaD (areaOf L))) ∧ (e.set 12 (some x))[12]? = some (some x)) :
    lcGo g (gNm 12) tYes' (dMeth "Area" "has" 2 G_Area_has [] (dVar 3) (aCons (dVar 12) aNil)) e (cs.map cellT) m [] = .ok ((cs.map fun p => L.any (hasB · p.1 p.2)).map D.bl) m := by
  rw [lc_map (fun x => match x with | .tup [.int a, .int b] => .bl (L.any (hasB · a b)) | _ => .non) hg (cs.map cellT) (fun x hx => by
    obtain ⟨p, mp, rfl⟩ := List.mem_map.mp hx
    refine ⟨_, g_nm, ?_⟩
    obtain ⟨p1, p2⟩ := hs p mp
    have e1 := x_ahas (F := areaOf L) hc p1 p2 (Nat.le_trans (area_len hl) (by decide))
    rw [area_has hL] at e1
    obtain ⟨h1, h2⟩ := he (cellT p)
    have cp : cellT p = .tup [.int p.1, .int p.2] := rfl
    rw [← cp] at e1
    generalize e.set 12 (some (cellT p)) = e' at *
    show _ = Out.ok (D.bl (L.any (hasB · p.1 p.2))) m
    generalize cellT p = P at *
    clear he hs hL p1 p2 cp
    apply eq_ok
    trivial
    all_goals rfl) (by rw [List.length_map]; omega), List.map_map, List.map_map]
  rfl
theorem lhas_comp {g : List M → Prop} {e : En} (hg : g m) (hc : Cln m) (hn : cs.length ≤ 1000) (he : ∀ x y, ((e.set 8 (some x)).set 9 (some y))[2]? = some (some (.lst (foursD L))) ∧ ((e.set 8 (some x)).set 9 (some y))[8]? = some (some x) ∧ ((e.set 8 (some x)).set 9 (some y))[9]? = some (some y)) :
    lcGo g (gSeq 2 (gsCons (gNm 8) (gsCons (gNm 9) gsNil))) tYes' (dCall 3 G_law_has_k12 [] (aCons (dVar 2) (aCons (dVar 8) (aCons (dVar 9) aNil)))) e (cs.map cellT) m [] = .ok ((cs.map fun p => L.any (hasB · p.1 p.2)).map D.bl) m := by
  rw [lc_map (fun x => match x with | .tup [.int a, .int b] => .bl (L.any (hasB · a b)) | _ => .non) hg (cs.map cellT) (fun x hx => by
    obtain ⟨p, mp, rfl⟩ := List.mem_map.mp hx
    refine ⟨(e.set 8 (some (.int p.1))).set 9 (some (.int p.2)), rfl, ?_⟩
    have e1 := lhas_ok (L := L) (r := p.1) (c := p.2) hc
    obtain ⟨h1, h2, h3⟩ := he (.int p.1) (.int p.2)
    generalize (e.set 8 (some (.int p.1))).set 9 (some (.int p.2)) = e' at *
    show _ = Out.ok (D.bl (L.any (hasB · p.1 p.2))) m
    clear he
    apply eq_ok
    trivial
    all_goals rfl) (by rw [List.length_map]; omega), List.map_map, List.map_map]
  rfl
theorem law_main12 (hn : ns.length ≤ 63) : ∃ μ, G_law_k12 [.scr ns] [] = .ok (.bl true) μ := by
  have hm : WO (G_law_k12 [.scr ns] []) (fun x m => x = .bl true) xNo ⟨⟩ := by
    unfold G_law_k12
    refine wo_fn rfl ?_
    unfold D_law_k12
    have c0 : Cln [] := fun q hq => absurd hq List.not_mem_nil
    obtain ⟨c, ec⟩ := cell_at12 (ns := ns) c0
    obtain ⟨as, s1, s2⟩ := cut12 (ns := ns) (m := []) hn
    trivial
    refine source_k c0 ?_
    trivial
    have d0 : Dr [M.lst [.int c, .int c, .int 0]] 0 [M.lst [.int c, .int c, .int 0]] := Dr.of (fun q hq => by rw [List.mem_singleton.mp hq]; rfl) ⟨_, _, _, rfl⟩
    refine drawn_k (Q := fun _ _ => True) d0 fun L m1 l8 hL hB d1 => ?_
    have mk := made_ok d1.cln (by omega) hL
    have ma := x_area d1.cln hL (by omega)
    have sl : ∀ m, slc m (some 1) (some 21) (.scr ns) = some (.lst (as.map D.int)) := fun m => by rw [← s1]; rfl
    have s3 : ∀ m, opAdd m (.lst (as.map D.int)) (.lst [.int 0, .int 1]) = some (.lst ((as ++ [0, 1]).map D.int)) := fun m => by
      rw [e_addL l_lst l_lst, if_pos (by rw [List.length_map]; show _ + 2 ≤ _; omega), List.map_append]; rfl
    have hc1 := d1.cln
    have l8 := Hide12.mk l8
    have hL := Hide12.mk hL
    have hB := Hide12.mk hB
    have s2 := Hide12.mk s2
    clear d0 d1 ec s1 hn c0
    trivial
    have n0 : m1 ++ [M.lst []] = m1 ++ [M.lst (([] : List (Int × Int)).map cellT)] := rfl
    rw [n0]
    refine s_forGo (fun xs e m => ∃ (ks : List Int) (cs : List (Int × Int)) (o1 o5 o6 o7 o8 o9 o10 o11 o12 : Option D), xs = ks.map D.int ∧ cs.length + ks.length ≤ 100 ∧ (∀ p ∈ cs, 1 ≤ p.1 ∧ 1 ≤ p.2) ∧ Cln m ∧ m[m1.length]? = some (.lst (cs.map cellT)) ∧ e = [some (.scr ns), o1, some (.lst (foursD L)), some (areaD (areaOf L)), some (.cel m1.length), o5, o6, o7, o8, o9, o10, o11, o12]) ?_ ?_ _ _ _
      ⟨as ++ [0, 1], [], _, _, _, _, _, _, _, _, _, rfl, by rw [List.length_append]; have := s2.out; show 0 + (_ + 2) ≤ _; omega, (fun _ q => nomatch q), hc1.snoc rfl, List.getElem?_concat_length, rfl⟩
    · rintro e m ⟨ks, cs, o1, o5, o6, o7, o8, o9, o10, o11, o12, h1, h2, h3, h4, h5, rfl⟩
      refine ⟨⟨⟩, ?_⟩
      have it : itAny m (.cel m1.length) = some (cs.map cellT, fun μ2 => cellL μ2[m1.length]? = some (cs.map cellT)) := by rw [ia_cel, h5]; rfl
      have g0 : (fun μ2 : List M => cellL μ2[m1.length]? = some (cs.map cellT)) m := by show cellL m[m1.length]? = _; rw [h5]; rfl
      have l1 := has_comp (g := fun μ2 : List M => cellL μ2[m1.length]? = some (cs.map cellT)) (m := m) (e := [some (.scr ns), o1, some (.lst (foursD L)), some (areaD (areaOf L)), some (.cel m1.length), o5, o6, o7, o8, o9, o10, o11, none]) g0 h4 hL.out (by have := l8.out; omega) h3 (by omega) (fun x => ⟨rfl, rfl⟩)
      have l2 := lhas_comp (g := fun μ2 : List M => cellL μ2[m1.length]? = some (cs.map cellT)) (m := m) (L := L) (cs := cs) (e := [some (.scr ns), o1, some (.lst (foursD L)), some (areaD (areaOf L)), some (.cel m1.length), o5, o6, o7, none, none, o10, o11, o12]) g0 h4 (by omega) (fun x y => ⟨rfl, rfl, rfl⟩)
      have eq := eq_bls (m := m) (l := cs.map fun p => L.any (hasB · p.1 p.2)) (by rw [List.length_map]; omega)
      clear h1 h2 h3 h5 g0 mk ma sl s3 n0 hc1
      trivial
      exact ⟨rfl, h4, rfl⟩
    · rintro x xs e m ⟨ks, cs, o1, o5, o6, o7, o8, o9, o10, o11, o12, h1, h2, h3, h4, h5, rfl⟩
      refine ⟨⟨⟩, ?_⟩
      show WS _ _ _ _ _ _ ⟨⟩
      cases ks with
      | nil => cases h1
      | cons k ks =>
        rw [List.map_cons] at h1
        cases h1
        clear mk ma sl s3 n0 hc1
        have h2 := Hide12.mk h2
        have h3 := Hide12.mk h3
        have h5 := Hide12.mk h5
        trivial
        refine source_k h4 ?_
        have nl : m1.length < m.length := (List.getElem?_eq_some_iff.mp h5.out).1
        have nl := Hide12.mk nl
        have d0 := Dr.new (a := k) (b := k) (c := 0) h4
        have ln : ∀ m, bLen m [.lst (foursD L)] = some (.int L.length) := fun m => by rw [t_len q_lst]; unfold foursD; rw [List.length_map]
        have ao : ∀ m, opAdd m (.lst (foursD L)) (.lst [.tup [.int 1, .int 1, .int 1, .int 1]]) = some (.lst (foursD (L ++ [one12]))) := fun m => by rw [add_one, if_pos (by have := l8.out; omega)]
        clear h4
        trivial
        refine next_k d0 (by omega) (by have := l8.out; omega) fun z m2 z0 z1 d2 => ?_
        obtain ⟨b, mb, ix⟩ : ∃ b, b ∈ L ++ [one12] ∧ ∀ m, opIx m (.lst (foursD (L ++ [one12]))) (.int z) = some (four b) := by
          have hz : z.toNat < (L ++ [one12]).length := by rw [List.length_append]; show _ < _ + 1; omega
          refine ⟨_, List.getElem_mem hz, fun m => ?_⟩
          show atI (foursD (L ++ [one12])) z = _
          rw [at_nn z0]
          unfold foursD
          rw [List.getElem?_map, List.getElem?_eq_getElem hz]; rfl
        have bo : b.Ok ∧ b.Le 2000000000000 := by
          rcases List.mem_append.mp mb with mb | mb
          · exact ⟨hL.out b mb, hB.out b mb⟩
          · rw [List.mem_singleton.mp mb]
            exact ⟨⟨by decide, by decide, rfl, rfl⟩, ⟨by decide, by decide, fun q e => by cases e; decide, fun q e => by cases e; decide⟩⟩
        have bo := Hide12.mk bo
        have b0 : ∀ m, opIx m (four b) (.int 0) = some (.int b.t) := fun _ => rfl
        have b1 : ∀ m, opIx m (four b) (.int 1) = some (.int b.l) := fun _ => rfl
        have b2 : ∀ m, opIx m (four b) (.int 2) = some (opt b.b) := fun _ => rfl
        have b3 : ∀ m, opIx m (four b) (.int 3) = some (opt b.r) := fun _ => rfl
        clear z0 z1 mb d0
        trivial
        refine near_k d2 bo.out.1.ot bo.out.2.ht (fun q e => ⟨by
          have h1 := bo.out.1.ob
          rw [e] at h1
          have := leO_some.mp h1
          have := bo.out.1.ot
          omega, bo.out.2.hb q e⟩) fun r m3 r0 r1 d3 => ?_
        have rr := Hide12.mk (And.intro r0 r1)
        clear r0 r1 d2
        trivial
        refine near_k d3 bo.out.1.ol bo.out.2.hl (fun q e => ⟨by
          have h1 := bo.out.1.or_
          rw [e] at h1
          have := leO_some.mp h1
          have := bo.out.1.ol
          omega, bo.out.2.hr q e⟩) fun c m4 c0 c1 d4 => ?_
        have cc := Hide12.mk (And.intro c0 c1)
        have ml : m.length ≠ m1.length := fun z => by have := nl.out; omega
        have at4 : m4[m1.length]? = some (.lst (cs.map cellT)) := by
          rw [d4.at_ (Ne.symm ml), List.getElem?_append_left nl.out]; exact h5.out
        obtain ⟨m5, e5, at5, d5⟩ : ∃ m5, m4.set m1.length (.lst (cs.map cellT ++ [.tup [.int r, .int c]])) = m5 ∧ m5[m1.length]? = some (.lst ((cs ++ [(r, c)]).map cellT)) ∧ Dr m5 m.length m5 := by
          have lt4 : m1.length < m4.length := (List.getElem?_eq_some_iff.mp at4).1
          have e6 : cs.map cellT ++ [.tup [.int r, .int c]] = (cs ++ [(r, c)]).map cellT := by rw [List.map_append]; rfl
          refine ⟨_, rfl, by rw [List.getElem?_set_self lt4, e6], Dr.of (d4.cln.set (show cleans 0 (cs.map cellT ++ [.tup [.int r, .int c]]) = true from by rw [e6]; exact clean_cells _)) ?_⟩
          obtain ⟨x, y, z, hw⟩ := d4.well
          exact ⟨x, y, z, by rw [List.getElem?_set_ne (Ne.symm ml)]; exact hw⟩
        have lc : (cs.map cellT).length < 100000 := by rw [List.length_map]; have := h2.out; omega
        have ah := x_ahas (F := areaOf L) (i := r) (j := c) d5.cln rr.out.1 c0 (Nat.le_trans (area_len (by have := l8.out; omega)) (by decide))
        rw [area_has hL.out] at ah
        have lh := lhas_ok (L := L) (r := r) (c := c) d5.cln
        have ib : bIsU (.inl "bool") m5 [.bl (L.any (hasB · r c)), .ty "bool"] = some (.bl true) := isU_bool rfl
        have nb : opNe m5 (.bl (L.any (hasB · r c))) (.bl (L.any (hasB · r c))) = some (.bl false) := by cases L.any (hasB · r c) <;> with_unfolding_all rfl
        have k0 : makeD "Block" 5 G_Block_init__ [.int 1, .int 1, .non, .non] m5 = .ok (blkD ⟨1, 1, none, none⟩) m5 := x_make (b := ⟨1, 1, none, none⟩) d5.cln ⟨by decide, by decide, rfl, rfl⟩
        have st := str12 (m := m5) rr.out.1 rr.out.2
        have oa : opAdd m5 (.lst [.non, .int r, .lst [.int r, .int c], .tup [.int r], .tup [.int r, .int c, .int 1], .tup [.int r, .non], .tup [.bl true, .int c], .tup [.int r, .bl true], .str "A1"]) (.lst [.tup [.int 0, .int c], .tup [.int r, .int 0], .tup [.int (0 - r), .int c], .tup [.str (toString r), .int c], .tup [.tup [.int r, .int c]], blkD ⟨1, 1, none, none⟩, .dct [] []]) = some (.lst (odd12 r c)) := rfl
        have lo : bLen m5 [.lst (odd12 r c)] = some (.int 16) := rfl
        clear c0 c1 d3
        generalize hv : (L.any fun x => hasB x r c) = v at *
        have hv := Hide12.mk hv
        trivial
        refine next_k d5 (by decide) (by decide) fun z m6 z0 z1 d6 => ?_
        obtain ⟨bd, hbd, ox⟩ := odd_ix12 (r := r) (c := c) rr.out.1 z0 z1
        have ox : ∀ m, opIx m (.lst (odd12 r c)) (.int z) = some bd := ox
        have rf := refused_ok (F := areaOf L) d6.cln hbd.kn hbd.no hbd.cl
        have hbd := Hide12.mk hbd
        have cl6 := d6.cln
        have at6 : m6[m1.length]? = some (.lst ((cs ++ [(r, c)]).map cellT)) := by rw [d6.at_ (Ne.symm ml)]; exact at5
        have fin : (cs ++ [(r, c)]).length + ks.length ≤ 100 ∧ ∀ p ∈ cs ++ [(r, c)], 1 ≤ p.1 ∧ 1 ≤ p.2 := ⟨by
          have := h2.out
          rw [List.length_cons] at this
          rw [List.length_append]; show _ + 1 + _ ≤ _; omega, fun p mp => by
          rcases List.mem_append.mp mp with mp | mp
          · exact h3.out p mp
          · rw [List.mem_singleton.mp mp]; exact ⟨rr.out.1, cc.out.1⟩⟩
        have fin := Hide12.mk fin
        have at6 := Hide12.mk at6
        clear z0 z1 d5 d4 e5 at4 at5 ah lh nb k0 st oa lo
        trivial
        exact ⟨ks, cs ++ [(r, c)], _, _, _, _, _, _, _, _, _, rfl, fin.out.1, fin.out.2, rfl, rfl⟩
  obtain ⟨x, m, e, rfl⟩ := hm.ex_
  exact ⟨m, e⟩
end
end PG
namespace K12
open PySem PySem.Spec PyProof.Rows L2 DL PG
structure Fx (K : PySem.W.Frag) (mg : Str → Option Value) : Prop where
  g_Area : mg "Area" = some (.ref (He.ga K "Area"))
  g_Block : mg "Block" = some (.ref (He.ga K "Block"))
  g_CellError : mg "CellError" = some (.ref (He.ga K "CellError"))
  g_NoArea : mg "NoArea" = some (.ref (He.ga K "NoArea"))
  g_NoBlock : mg "NoBlock" = some (.ref (He.ga K "NoBlock"))
  g_NoCell : mg "NoCell" = some (.ref (He.ga K "NoCell"))
  g_NoNumber : mg "NoNumber" = some (.ref (He.ga K "NoNumber"))
  g_either : mg "either" = some (.ref (He.ga K "either"))
  g_one_alone : mg "one_alone" = some (.ref (He.ga K "one_alone"))
  f_all : mg "all" = none
  f_any : mg "any" = none
  f_bool : mg "bool" = none
  f_enumerate : mg "enumerate" = none
  f_int : mg "int" = none
  f_isinstance : mg "isinstance" = none
  f_len : mg "len" = none
  f_list : mg "list" = none
  f_max : mg "max" = none
  f_range : mg "range" = none
  f_set : mg "set" = none
  f_sorted : mg "sorted" = none
  f_str : mg "str" = none
  f_tuple : mg "tuple" = none
  c_LETTERS : ∃ t, mg "LETTERS" = some (.str "ABCDEFGHIJKLMNOPQRSTUVWXYZ" t)
  x_NoBlock : ∀ n, ExF (at0 (S0 K) n) "NoBlock"
  x_NoCell : ∀ n, ExF (at0 (S0 K) n) "NoCell"
  n_bottom : ∀ n, ClsOk (at0 (S0 K) n) "bottom"
  n_form : ∀ n, ClsOk (at0 (S0 K) n) "form"
  n_left : ∀ n, ClsOk (at0 (S0 K) n) "left"
  n_right : ∀ n, ClsOk (at0 (S0 K) n) "right"
  n_top : ∀ n, ClsOk (at0 (S0 K) n) "top"
  ins : ∀ n, ∀ x ∈ (at0 (S0 K) n).cls, InsF (at0 (S0 K) n).K ((at0 (S0 K) n).A x)
  k_Block : ∀ n, KitF (at0 (S0 K) n) (.inr "Block")
  k_bool : ∀ n, KitF (at0 (S0 K) n) (.inl "bool")
  k_int : ∀ n, KitF (at0 (S0 K) n) (.inl "int")
  k_list : ∀ n, KitF (at0 (S0 K) n) (.inl "list")
  k_tuple : ∀ n, KitF (at0 (S0 K) n) (.inl "tuple")
  xk_NoArea : ∀ n p, ExcsF ((at0 (S0 K) n).pin p) (["NoCell", "NoColumn", "NoBlock"] : List Str) (.inr "NoArea")
  xk_NoBlock : ∀ n p, ExcsF ((at0 (S0 K) n).pin p) (["NoCell", "NoColumn", "NoBlock"] : List Str) (.inr "NoBlock")
  xk_NoCell : ∀ n p, ExcsF ((at0 (S0 K) n).pin p) (["NoCell", "NoColumn", "NoBlock"] : List Str) (.inr "NoCell")
  xk_NoNumber : ∀ n p, ExcsF ((at0 (S0 K) n).pin p) (["NoCell", "NoColumn", "NoBlock"] : List Str) (.inr "NoNumber")
  xm_CellError : ∀ n, ExmF (at0 (S0 K) n) (["NoCell", "NoColumn", "NoBlock"] : List Str) "CellError"
section
variable {P : Program} {w : World} {K : PySem.W.Frag} {mg : Str → Option Value} {base : Heap}
abbrev nm_law_source : List Str := ["_law_cell"]
theorem sc_law_source : FnScope nm_law_source ["_law_cell"] (defScope st_law_source) := ⟨rfl, rfl, rfl, by decide +kernel, rfl, by decide +kernel, by decide +kernel⟩
theorem ok_law_source {fd : FuncData} {dvs : List V} {kws : List (Str × V)} (T : Fx K mg)  (F : FunD K "_law_source" "_law_source" (defArgs st_law_source) (defBody st_law_source) (defScope st_law_source) dvs kws (He.ga K "_law_source") fd) :
    FnOk P w K mg base (L2M.CX false P w) 1 (He.ga K "_law_source") fd ["_law_cell"] (spN (S0 K) 1 G_law_source) :=
  fnN_ok (S := S0 K) F sc_law_source fun n cdv A outer s H E hr =>
    have hnd := sc_law_source.nd
    have tk : L2M.Takes false (cxOf (L2M.CX false P w) P w K mg base nm_law_source "_law_source" (defScope st_law_source) (He.ga K "_law_source") cdv A outer s H E) (fun cls d _ H => E cls d H) := L2M.takes_of rfl rfl rfl rfl
    (pdss_one (pds_retC (pda_cons (pd_var (pv 0)) (pda_cons (pd_var (pv 0)) (pda_cons pd_int pda_nil)))))
abbrev nm_law_cell_at : List Str := ["_law_script", "_law_k"]
theorem sc_law_cell_at : FnScope nm_law_cell_at ["_law_script", "_law_k"] (defScope st_law_cell_at) := ⟨rfl, rfl, rfl, by decide +kernel, rfl, by decide +kernel, by decide +kernel⟩
theorem ok_law_cell_at {fd : FuncData} {dvs : List V} {kws : List (Str × V)} (T : Fx K mg)  (F : FunD K "_law_cell_at" "_law_cell_at" (defArgs st_law_cell_at) (defBody st_law_cell_at) (defScope st_law_cell_at) dvs kws (He.ga K "_law_cell_at") fd) :
    FnOk P w K mg base (L2M.CX false P w) 1 (He.ga K "_law_cell_at") fd ["_law_script", "_law_k"] (spD (S0 K) 2 G_law_cell_at) :=
  fnD_ok (S := S0 K) F sc_law_cell_at fun n cdv A outer s H E hr =>
    have hnd := sc_law_cell_at.nd
    have tk : L2M.Takes false (cxOf (L2M.CX false P w) P w K mg base nm_law_cell_at "_law_cell_at" (defScope st_law_cell_at) (He.ga K "_law_cell_at") cdv A outer s H E) (fun cls d _ H => E cls d H) := L2M.takes_of rfl rfl rfl rfl
    (pdss_cons (pds_if (pdt_cmp po_lt (pd_var (pv 1)) (pd_blt (pb_len rfl) rfl T.f_len (by decide +kernel) (pda_cons (pd_var (pv 0)) pda_nil)) (nomark _))
      (pdss_one (pds_ret (pd_ix rfl (pd_var (pv 0)) (pd_var (pv 1)) (fun _ _ => rfl))))
      pdss_nil)
      (pdss_one (pds_ret pd_int)))
abbrev nm_law_mixed : List Str := ["_law_cell", "_law_k", "_law_number"]
theorem sc_law_mixed : FnScope nm_law_mixed ["_law_cell", "_law_k"] (defScope st_law_mixed) := ⟨rfl, rfl, rfl, by decide +kernel, rfl, by decide +kernel, by decide +kernel⟩
theorem ok_law_mixed {fd : FuncData} {dvs : List V} {kws : List (Str × V)} (T : Fx K mg)  (F : FunD K "_law_mixed" "_law_mixed" (defArgs st_law_mixed) (defBody st_law_mixed) (defScope st_law_mixed) dvs kws (He.ga K "_law_mixed") fd) :
    FnOk P w K mg base (L2M.CX false P w) 1 (He.ga K "_law_mixed") fd ["_law_cell", "_law_k"] (spD (S0 K) 2 G_law_mixed) :=
  fnD_ok (S := S0 K) F sc_law_mixed fun n cdv A outer s H E hr =>
    have hnd := sc_law_mixed.nd
    have tk : L2M.Takes false (cxOf (L2M.CX false P w) P w K mg base nm_law_mixed "_law_mixed" (defScope st_law_mixed) (He.ga K "_law_mixed") cdv A outer s H E) (fun cls d _ H => E cls d H) := L2M.takes_of rfl rfl rfl rfl
    (pdss_cons (pds_set hnd rfl (by first | exact Or.inl rfl | exact Or.inr rfl) (pd_op po_add (pd_op po_add (pd_op po_add (pd_op po_mod (pd_var (pv 0)) pd_int) (pd_op po_mul (pd_op po_div (pd_var (pv 0)) pd_int) pd_int)) (pd_op po_mul pd_int (pd_var (pv 1)))) pd_int))
      (pdss_cons (pds_set hnd rfl (by first | exact Or.inl rfl | exact Or.inr rfl) (pd_op po_mod (pd_op po_mul (pd_var (pv 2)) pd_int) pd_int))
      (pdss_cons (pds_set hnd rfl (by first | exact Or.inl rfl | exact Or.inr rfl) (pd_op po_mod (pd_op po_mul (pd_var (pv 2)) (pd_op po_add (pd_op po_add (pd_op po_div (pd_var (pv 2)) pd_int) pd_int) (pd_var (pv 1)))) pd_int))
      (pdss_one (pds_ret (pd_op po_mod (pd_op po_mul (pd_var (pv 2)) (pd_op po_add (pd_op po_div (pd_var (pv 2)) pd_int) pd_int)) pd_int))))))
abbrev nm_law_next : List Str := ["_law_source_here", "_law_many", "_law_found"]
theorem sc_law_next : FnScope nm_law_next ["_law_source_here", "_law_many"] (defScope st_law_next) := ⟨rfl, rfl, rfl, by decide +kernel, rfl, by decide +kernel, by decide +kernel⟩
theorem ok_law_next {fd : FuncData} {dvs : List V} {kws : List (Str × V)} (T : Fx K mg) (C_law_mixed_fn : CalD false P w K mg base (S0 K) 1 "_law_mixed" 2 G_law_mixed dfl_law_mixed) (F : FunD K "_law_next" "_law_next" (defArgs st_law_next) (defBody st_law_next) (defScope st_law_next) dvs kws (He.ga K "_law_next") fd) :
    FnOk P w K mg base (L2M.CX false P w) 2 (He.ga K "_law_next") fd ["_law_source_here", "_law_many"] (spD (S0 K) 2 G_law_next) :=
  fnD_ok (S := S0 K) F sc_law_next fun n cdv A outer s H E hr =>
    have hnd := sc_law_next.nd
    have tk : L2M.Takes false (cxOf (L2M.CX false P w) P w K mg base nm_law_next "_law_next" (defScope st_law_next) (He.ga K "_law_next") cdv A outer s H E) (fun cls d _ H => E cls d H) := L2M.takes_of rfl rfl rfl rfl
    (pdss_cons (pds_if (pdt_cmp po_ge (pd_ix rfl (pd_var (pv 0)) pd_int (fun _ _ => rfl)) (pd_op po_pow pd_int pd_int) (nomark _))
      (pdss_cons (pds_set hnd rfl (by first | exact Or.inl rfl | exact Or.inr rfl) (pd_op po_mod (pd_ix rfl (pd_var (pv 0)) pd_int (fun _ _ => rfl)) (pd_var (pv 1))))
      (pdss_cons (pds_setIx (pd_op po_div (pd_ix rfl (pd_var (pv 0)) pd_int (fun _ _ => rfl)) (pd_var (pv 1))) (pd_var (pv 0)) pd_int)
      (pdss_one (pds_ret (pd_var (pv 2))))))
      pdss_nil)
      (pdss_cons (pds_setIx (pd_op po_add (pd_ix rfl (pd_var (pv 0)) pd_int (fun _ _ => rfl)) pd_int) (pd_var (pv 0)) pd_int)
      (pdss_one (pds_ret (pd_op po_mod (pd_c C_law_mixed_fn hr (by decide) 0 (by decide) tk rfl (pda_cons (pd_ix rfl (pd_var (pv 0)) pd_int (fun _ _ => rfl)) (pda_cons (pd_ix rfl (pd_var (pv 0)) pd_int (fun _ _ => rfl)) pda_nil))) (pd_var (pv 1)))))))
abbrev nm_law_ends : List Str := ["_law_source_here", "_law_great", "_law_first", "_law_last"]
theorem sc_law_ends : FnScope nm_law_ends ["_law_source_here", "_law_great"] (defScope st_law_ends) := ⟨rfl, rfl, rfl, by decide +kernel, rfl, by decide +kernel, by decide +kernel⟩
theorem ok_law_ends {fd : FuncData} {dvs : List V} {kws : List (Str × V)} (T : Fx K mg) (C_law_next_fn : CalD false P w K mg base (S0 K) 2 "_law_next" 2 G_law_next dfl_law_next) (F : FunD K "_law_ends" "_law_ends" (defArgs st_law_ends) (defBody st_law_ends) (defScope st_law_ends) dvs kws (He.ga K "_law_ends") fd) :
    FnOk P w K mg base (L2M.CX false P w) 3 (He.ga K "_law_ends") fd ["_law_source_here", "_law_great"] (spD (S0 K) 2 G_law_ends_k12) :=
  fnD_ok (S := S0 K) F sc_law_ends fun n cdv A outer s H E hr =>
    have hnd := sc_law_ends.nd
    have tk : L2M.Takes false (cxOf (L2M.CX false P w) P w K mg base nm_law_ends "_law_ends" (defScope st_law_ends) (He.ga K "_law_ends") cdv A outer s H E) (fun cls d _ H => E cls d H) := L2M.takes_of rfl rfl rfl rfl
    (pdss_cons (pds_set hnd rfl (by first | exact Or.inl rfl | exact Or.inr rfl) (pd_op po_add pd_int (pd_c C_law_next_fn hr (by decide) 0 (by decide) tk rfl (pda_cons (pd_var (pv 0)) (pda_cons (pd_ix rfl (pd_lst (pda_cons pd_int (pda_cons (pd_op po_pow pd_int pd_int) pda_nil))) (pd_var (pv 1)) (fun _ _ => rfl)) pda_nil)))))
      (pdss_cons (pds_set hnd rfl (by first | exact Or.inl rfl | exact Or.inr rfl) (pd_op po_add (pd_var (pv 2)) (pd_op po_mul (pd_c C_law_next_fn hr (by decide) 0 (by decide) tk rfl (pda_cons (pd_var (pv 0)) (pda_cons pd_int pda_nil))) (pd_ix rfl (pd_lst (pda_cons pd_int (pda_cons (pd_op po_add (pd_c C_law_next_fn hr (by decide) 0 (by decide) tk rfl (pda_cons (pd_var (pv 0)) (pda_cons (pd_op po_pow pd_int pd_int) pda_nil))) pd_int) pda_nil))) (pd_var (pv 1)) (fun _ _ => rfl)))))
      (pdss_cons (pds_if (pdt_cmp (po_eq rfl hr.units) (pd_c C_law_next_fn hr (by decide) 0 (by decide) tk rfl (pda_cons (pd_var (pv 0)) (pda_cons pd_int pda_nil))) pd_int (nomark _))
      (pdss_one (pds_set hnd rfl (by first | exact Or.inl rfl | exact Or.inr rfl) pd_int))
      pdss_nil)
      (pdss_cons (pds_if (pdt_cmp (po_eq rfl hr.units) (pd_c C_law_next_fn hr (by decide) 0 (by decide) tk rfl (pda_cons (pd_var (pv 0)) (pda_cons pd_int pda_nil))) pd_int (nomark _))
      (pdss_one (pds_ret (pd_tup (pda_cons (pd_var (pv 2)) (pda_cons pd_non pda_nil)))))
      pdss_nil)
      (pdss_one (pds_ret (pd_tup (pda_cons (pd_var (pv 2)) (pda_cons (pd_blt (pb_max rfl) rfl T.f_max (by decide +kernel) (pda_cons (pd_var (pv 2)) (pda_cons (pd_var (pv 3)) pda_nil))) pda_nil)))))))))
abbrev nm_law_drawn : List Str := ["_law_source_here", "_law_many", "_law_great", "_law_found", "_law_k", "_law_top", "_law_bottom", "_law_left", "_law_right", "_law_other"]
theorem sc_law_drawn : FnScope nm_law_drawn ["_law_source_here", "_law_many"] (defScope st_law_drawn) := ⟨rfl, rfl, rfl, by decide +kernel, rfl, by decide +kernel, by decide +kernel⟩
theorem ok_law_drawn {fd : FuncData} {dvs : List V} {kws : List (Str × V)} (T : Fx K mg) (C_law_next_fn : CalD false P w K mg base (S0 K) 2 "_law_next" 2 G_law_next dfl_law_next) (C_law_ends_fn : CalD false P w K mg base (S0 K) 3 "_law_ends" 2 G_law_ends_k12 dfl_law_ends_k12) (F : FunD K "_law_drawn" "_law_drawn" (defArgs st_law_drawn) (defBody st_law_drawn) (defScope st_law_drawn) dvs kws (He.ga K "_law_drawn") fd) :
    FnOk P w K mg base (L2M.CX false P w) 4 (He.ga K "_law_drawn") fd ["_law_source_here", "_law_many"] (spD (S0 K) 2 G_law_drawn) :=
  fnD_ok (S := S0 K) F sc_law_drawn fun n cdv A outer s H E hr =>
    have hnd := sc_law_drawn.nd
    have tk : L2M.Takes false (cxOf (L2M.CX false P w) P w K mg base nm_law_drawn "_law_drawn" (defScope st_law_drawn) (He.ga K "_law_drawn") cdv A outer s H E) (fun cls d _ H => E cls d H) := L2M.takes_of rfl rfl rfl rfl
    (pdss_cons (pds_set hnd rfl (by first | exact Or.inl rfl | exact Or.inr rfl) (pd_c C_law_next_fn hr (by decide) 0 (by decide) tk rfl (pda_cons (pd_var (pv 0)) (pda_cons pd_int pda_nil))))
      (pdss_cons (pds_cel hnd rfl (by first | exact Or.inl rfl | exact Or.inr rfl) pda_nil)
      (pdss_cons (pds_for (by exact PassesOwn.leaving) rfl (pdi_range1 rfl T.f_range (pda_cons (pd_c C_law_next_fn hr (by decide) 0 (by decide) tk rfl (pda_cons (pd_var (pv 0)) (pda_cons (pd_op po_add (pd_var (pv 1)) pd_int) pda_nil))) pda_nil)) (pdg_name hnd rfl (by first | exact Or.inl rfl | exact Or.inr rfl))
      (pdss_cons (pds_asg (pd_c C_law_ends_fn hr (by decide) 0 (by decide) tk rfl (pda_cons (pd_var (pv 0)) (pda_cons (pd_var (pv 2)) pda_nil))) (pdg_tup rfl rfl (pdgs_cons (pdg_name hnd rfl (by first | exact Or.inl rfl | exact Or.inr rfl)) (pdgs_cons (pdg_name hnd rfl (by first | exact Or.inl rfl | exact Or.inr rfl)) pdgs_nil))))
      (pdss_cons (pds_asg (pd_c C_law_ends_fn hr (by decide) 0 (by decide) tk rfl (pda_cons (pd_var (pv 0)) (pda_cons (pd_var (pv 2)) pda_nil))) (pdg_tup rfl rfl (pdgs_cons (pdg_name hnd rfl (by first | exact Or.inl rfl | exact Or.inr rfl)) (pdgs_cons (pdg_name hnd rfl (by first | exact Or.inl rfl | exact Or.inr rfl)) pdgs_nil))))
      (pdss_cons (pds_if (PDW.pt (pdw_and (pdt_cmp (po_ne rfl hr.units) (pd_var (pv 3)) (pd_lst pda_nil) (nomark _)) (pdw_and1 (pdt_cmp (po_eq rfl hr.units) (pd_c C_law_next_fn hr (by decide) 0 (by decide) tk rfl (pda_cons (pd_var (pv 0)) (pda_cons pd_int pda_nil))) pd_int (nomark _)))))
      (pdss_cons (pds_set hnd rfl (by first | exact Or.inl rfl | exact Or.inr rfl) (pd_ix rfl (pd_var (pv 3)) (pd_c C_law_next_fn hr (by decide) 0 (by decide) tk rfl (pda_cons (pd_var (pv 0)) (pda_cons (pd_blt (pb_len rfl) rfl T.f_len (by decide +kernel) (pda_cons (pd_var (pv 3)) pda_nil)) pda_nil))) (fun _ _ => rfl)))
      (pdss_cons (pds_asg (pd_ix rfl (pd_lst (pda_cons (pd_tup (pda_cons (pd_var (pv 7)) (pda_cons (pd_var (pv 8)) pda_nil))) (pda_cons (pd_tup (pda_cons (pd_ix rfl (pd_var (pv 9)) pd_int (fun _ _ => rfl)) (pda_cons (pd_ix rfl (pd_var (pv 9)) pd_int (fun _ _ => rfl)) pda_nil))) pda_nil))) (pd_c C_law_next_fn hr (by decide) 0 (by decide) tk rfl (pda_cons (pd_var (pv 0)) (pda_cons pd_int pda_nil))) (fun _ _ => rfl)) (pdg_tup rfl rfl (pdgs_cons (pdg_name hnd rfl (by first | exact Or.inl rfl | exact Or.inr rfl)) (pdgs_cons (pdg_name hnd rfl (by first | exact Or.inl rfl | exact Or.inr rfl)) pdgs_nil))))
      (pdss_one (pds_if (PDW.pt (pdw_and (pdt_cmp po_isN (pd_ix rfl (pd_var (pv 9)) pd_int (fun _ _ => rfl)) pd_non (nomark _)) (pdw_and1 (pdt_cmp (po_eq rfl hr.units) (pd_c C_law_next_fn hr (by decide) 0 (by decide) tk rfl (pda_cons (pd_var (pv 0)) (pda_cons pd_int pda_nil))) pd_int (nomark _)))))
      (pdss_cons (pds_set hnd rfl (by first | exact Or.inl rfl | exact Or.inr rfl) (pd_op po_add (pd_ix rfl (pd_var (pv 9)) pd_int (fun _ _ => rfl)) pd_int))
      (pdss_one (pds_set hnd rfl (by first | exact Or.inl rfl | exact Or.inr rfl) (pd_ix rfl (pd_lst (pda_cons pd_non (pda_cons (pd_var (pv 5)) (pda_cons (pd_op po_add (pd_var (pv 5)) (pd_c C_law_next_fn hr (by decide) 0 (by decide) tk rfl (pda_cons (pd_var (pv 0)) (pda_cons pd_int pda_nil)))) pda_nil)))) (pd_c C_law_next_fn hr (by decide) 0 (by decide) tk rfl (pda_cons (pd_var (pv 0)) (pda_cons pd_int pda_nil))) (fun _ _ => rfl)))))
      pdss_nil))))
      pdss_nil)
      (pdss_one (pds_app rfl (pd_var (pv 3)) (pd_tup (pda_cons (pd_var (pv 5)) (pda_cons (pd_var (pv 7)) (pda_cons (pd_var (pv 6)) (pda_cons (pd_var (pv 8)) pda_nil)))))))))))
      (pdss_one (pds_ret (pd_var (pv 3)))))))
abbrev nm_checked_blocks : List Str := ["blocks", "block"]
theorem sc_checked_blocks : FnScope nm_checked_blocks ["blocks"] (defScope st_checked_blocks) := ⟨rfl, rfl, rfl, by decide +kernel, rfl, by decide +kernel, by decide +kernel⟩
theorem ok_checked_blocks {fd : FuncData} {dvs : List V} {kws : List (Str × V)} (T : Fx K mg)  (F : FunD K "checked_blocks" "checked_blocks" (defArgs st_checked_blocks) (defBody st_checked_blocks) (defScope st_checked_blocks) dvs kws (He.ga K "checked_blocks") fd) :
    FnOk P w K mg base (L2M.CX false P w) 1 (He.ga K "checked_blocks") fd ["blocks"] (spD (S0 K) 1 G_checked_blocks) :=
  fnD_ok (S := S0 K) F sc_checked_blocks fun n cdv A outer s H E hr =>
    have hnd := sc_checked_blocks.nd
    have tk : L2M.Takes false (cxOf (L2M.CX false P w) P w K mg base nm_checked_blocks "checked_blocks" (defScope st_checked_blocks) (He.ga K "checked_blocks") cdv A outer s H E) (fun cls d _ H => E cls d H) := L2M.takes_of rfl rfl rfl rfl
    (pdss_one (pds_if (PDW.pt (pdw_or (pdt_not (pdt_tru rfl (pd_blt (pb_isi rfl (T.ins n) (T.k_list n)) rfl T.f_isinstance (by decide +kernel) (pda_cons (pd_var (pv 0)) (pda_cons (pd_bvl rfl T.f_list (by decide +kernel)) pda_nil))))) (pdw_or1 (pdt_not (pdt_tru rfl (pd_blt (pb_all rfl rfl) rfl T.f_all (by decide +kernel) (pda_cons (pd_lc (own := [("block", 1)]) rfl (by exact hnd) (pdi_any rfl (pd_var (pv 0))) (blkOk_by (own := [("block", 1)]) (N := ["blocks", "block"]) (sc := defScope st_checked_blocks) (by decide +kernel)) (by decide) (fun _ _ _ _ _ => (pdg_name hnd rfl (by first | exact Or.inl rfl | exact Or.inr rfl))) (fun _ _ _ _ _ => pdts_nil) (fun _ _ _ _ _ => (pd_blt (pb_isi rfl (T.ins n) (T.k_Block n)) rfl T.f_isinstance (by decide +kernel) (pda_cons (pd_var (pv 1)) (pda_cons (pd_glo rfl T.g_Block) pda_nil))))) pda_nil)))))))
      (pdss_one (pds_raise rfl (T.x_NoBlock n) rfl tk rfl T.g_NoBlock))
      pdss_nil))
abbrev nm_is_whole : List Str := ["thing"]
theorem sc_is_whole : FnScope nm_is_whole ["thing"] (defScope st_is_whole) := ⟨rfl, rfl, rfl, by decide +kernel, rfl, by decide +kernel, by decide +kernel⟩
theorem ok_is_whole {fd : FuncData} {dvs : List V} {kws : List (Str × V)} (T : Fx K mg)  (F : FunD K "is_whole" "is_whole" (defArgs st_is_whole) (defBody st_is_whole) (defScope st_is_whole) dvs kws (He.ga K "is_whole") fd) :
    FnOk P w K mg base (L2M.CX false P w) 1 (He.ga K "is_whole") fd ["thing"] (spD (S0 K) 1 G_is_whole) :=
  fnD_ok (S := S0 K) F sc_is_whole fun n cdv A outer s H E hr =>
    have hnd := sc_is_whole.nd
    have tk : L2M.Takes false (cxOf (L2M.CX false P w) P w K mg base nm_is_whole "is_whole" (defScope st_is_whole) (He.ga K "is_whole") cdv A outer s H E) (fun cls d _ H => E cls d H) := L2M.takes_of rfl rfl rfl rfl
    (pdss_one (pds_ret (pd_and rfl (pd_blt (pb_isi rfl (T.ins n) (T.k_int n)) rfl T.f_isinstance (by decide +kernel) (pda_cons (pd_var (pv 0)) (pda_cons (pd_bvl rfl T.f_int (by decide +kernel)) pda_nil))) (pd_one (pd_not rfl (pd_blt (pb_isi rfl (T.ins n) (T.k_bool n)) rfl T.f_isinstance (by decide +kernel) (pda_cons (pd_var (pv 0)) (pda_cons (pd_bvl rfl T.f_bool (by decide +kernel)) pda_nil))))))))
abbrev nm_is_count : List Str := ["thing"]
theorem sc_is_count : FnScope nm_is_count ["thing"] (defScope st_is_count) := ⟨rfl, rfl, rfl, by decide +kernel, rfl, by decide +kernel, by decide +kernel⟩
theorem ok_is_count {fd : FuncData} {dvs : List V} {kws : List (Str × V)} (T : Fx K mg) (C_is_whole_fn : CalD false P w K mg base (S0 K) 1 "is_whole" 1 G_is_whole dfl_is_whole) (F : FunD K "is_count" "is_count" (defArgs st_is_count) (defBody st_is_count) (defScope st_is_count) dvs kws (He.ga K "is_count") fd) :
    FnOk P w K mg base (L2M.CX false P w) 2 (He.ga K "is_count") fd ["thing"] (spD (S0 K) 1 G_is_count) :=
  fnD_ok (S := S0 K) F sc_is_count fun n cdv A outer s H E hr =>
    have hnd := sc_is_count.nd
    have tk : L2M.Takes false (cxOf (L2M.CX false P w) P w K mg base nm_is_count "is_count" (defScope st_is_count) (He.ga K "is_count") cdv A outer s H E) (fun cls d _ H => E cls d H) := L2M.takes_of rfl rfl rfl rfl
    (pdss_one (pds_ret (pd_and rfl (pd_c C_is_whole_fn hr (by decide) 0 (by decide) tk rfl (pda_cons (pd_var (pv 0)) pda_nil)) (pd_one (pd_cmp po_ge (pd_var (pv 0)) pd_int (nomark _))))))
abbrev nm_is_end : List Str := ["first", "last"]
theorem sc_is_end : FnScope nm_is_end ["first", "last"] (defScope st_is_end) := ⟨rfl, rfl, rfl, by decide +kernel, rfl, by decide +kernel, by decide +kernel⟩
theorem ok_is_end {fd : FuncData} {dvs : List V} {kws : List (Str × V)} (T : Fx K mg) (C_is_count_fn : CalD false P w K mg base (S0 K) 2 "is_count" 1 G_is_count dfl_is_count) (F : FunD K "is_end" "is_end" (defArgs st_is_end) (defBody st_is_end) (defScope st_is_end) dvs kws (He.ga K "is_end") fd) :
    FnOk P w K mg base (L2M.CX false P w) 3 (He.ga K "is_end") fd ["first", "last"] (spD (S0 K) 2 G_is_end) :=
  fnD_ok (S := S0 K) F sc_is_end fun n cdv A outer s H E hr =>
    have hnd := sc_is_end.nd
    have tk : L2M.Takes false (cxOf (L2M.CX false P w) P w K mg base nm_is_end "is_end" (defScope st_is_end) (He.ga K "is_end") cdv A outer s H E) (fun cls d _ H => E cls d H) := L2M.takes_of rfl rfl rfl rfl
    (pdss_one (pds_ret (pd_or rfl (pd_cmp po_is (pd_var (pv 1)) pd_non (nomark _)) (pd_one (pd_and rfl (pd_c C_is_count_fn hr (by decide) 0 (by decide) tk rfl (pda_cons (pd_var (pv 1)) pda_nil)) (pd_one (pd_cmp po_ge (pd_var (pv 1)) (pd_var (pv 0)) (nomark _))))))))
abbrev nm_Block_init__ : List Str := ["self", "top", "left", "bottom", "right"]
theorem sc_Block_init__ : FnScope nm_Block_init__ ["self", "top", "left", "bottom", "right"] (defScope st_Block_init__) := ⟨rfl, rfl, rfl, by decide +kernel, rfl, by decide +kernel, by decide +kernel⟩
theorem ok_Block_init__ {fd : FuncData} {dvs : List V} {kws : List (Str × V)} (T : Fx K mg) (C_is_count_fn : CalD false P w K mg base (S0 K) 2 "is_count" 1 G_is_count dfl_is_count) (C_is_end_fn : CalD false P w K mg base (S0 K) 3 "is_end" 2 G_is_end dfl_is_end) (F : FunD K "__init__" "Block.__init__" (defArgs st_Block_init__) (defBody st_Block_init__) (defScope st_Block_init__) dvs kws (He.ma K (He.ga K "Block") "__init__") fd) :
    FnOk P w K mg base (L2M.CX false P w) 4 (He.ma K (He.ga K "Block") "__init__") fd ["self", "top", "left", "bottom", "right"] (spD (S0 K) 5 G_Block_init__) :=
  fnD_ok (S := S0 K) F sc_Block_init__ fun n cdv A outer s H E hr =>
    have hnd := sc_Block_init__.nd
    have tk : L2M.Takes false (cxOf (L2M.CX false P w) P w K mg base nm_Block_init__ "Block.__init__" (defScope st_Block_init__) (He.ma K (He.ga K "Block") "__init__") cdv A outer s H E) (fun cls d _ H => E cls d H) := L2M.takes_of rfl rfl rfl rfl
    (pdss_cons (pds_if (PDW.pt (pdw_or (pdt_not (pdt_tru rfl (pd_c C_is_count_fn hr (by decide) 0 (by decide) tk rfl (pda_cons (pd_var (pv 1)) pda_nil)))) (pdw_or (pdt_not (pdt_tru rfl (pd_c C_is_count_fn hr (by decide) 0 (by decide) tk rfl (pda_cons (pd_var (pv 2)) pda_nil)))) (pdw_or (pdt_not (pdt_tru rfl (pd_c C_is_end_fn hr (by decide) 0 (by decide) tk rfl (pda_cons (pd_var (pv 1)) (pda_cons (pd_var (pv 3)) pda_nil))))) (pdw_or1 (pdt_not (pdt_tru rfl (pd_c C_is_end_fn hr (by decide) 0 (by decide) tk rfl (pda_cons (pd_var (pv 2)) (pda_cons (pd_var (pv 4)) pda_nil))))))))))
      (pdss_one (pds_raise rfl (T.x_NoBlock n) rfl tk rfl T.g_NoBlock))
      pdss_nil)
      (pdss_cons (pds_fld rfl (T.n_top n) (pd_var (pv 0)) (pd_var (pv 1)))
      (pdss_cons (pds_fld rfl (T.n_left n) (pd_var (pv 0)) (pd_var (pv 2)))
      (pdss_cons (pds_fld rfl (T.n_bottom n) (pd_var (pv 0)) (pd_var (pv 3)))
      (pdss_one (pds_fld rfl (T.n_right n) (pd_var (pv 0)) (pd_var (pv 4))))))))
abbrev nm_first_cell : List Str := ["block"]
theorem sc_first_cell : FnScope nm_first_cell ["block"] (defScope st_first_cell) := ⟨rfl, rfl, rfl, by decide +kernel, rfl, by decide +kernel, by decide +kernel⟩
theorem ok_first_cell {fd : FuncData} {dvs : List V} {kws : List (Str × V)} (T : Fx K mg)  (F : FunD K "first_cell" "first_cell" (defArgs st_first_cell) (defBody st_first_cell) (defScope st_first_cell) dvs kws (He.ga K "first_cell") fd) :
    FnOk P w K mg base (L2M.CX false P w) 1 (He.ga K "first_cell") fd ["block"] (spD (S0 K) 1 G_first_cell) :=
  fnD_ok (S := S0 K) F sc_first_cell fun n cdv A outer s H E hr =>
    have hnd := sc_first_cell.nd
    have tk : L2M.Takes false (cxOf (L2M.CX false P w) P w K mg base nm_first_cell "first_cell" (defScope st_first_cell) (He.ga K "first_cell") cdv A outer s H E) (fun cls d _ H => E cls d H) := L2M.takes_of rfl rfl rfl rfl
    (pdss_one (pds_ret (pd_tup (pda_cons (pd_fld rfl (T.n_top n) (pd_var (pv 0))) (pda_cons (pd_fld rfl (T.n_left n) (pd_var (pv 0))) pda_nil)))))
abbrev nm_form_of : List Str := ["bands", "found", "begun", "behind", "first", "last", "runs", "run", "top"]
theorem sc_form_of : FnScope nm_form_of ["bands"] (defScope st_form_of) := ⟨rfl, rfl, rfl, by decide +kernel, rfl, by decide +kernel, by decide +kernel⟩
theorem ok_form_of {fd : FuncData} {dvs : List V} {kws : List (Str × V)} (T : Fx K mg) (C_Block_init___mk : MakD false P w K mg base (S0 K) 4 "Block" 5 G_Block_init__ dfl_Block_init__) (C_first_cell_fn : CalD false P w K mg base (S0 K) 1 "first_cell" 1 G_first_cell dfl_first_cell) (F : FunD K "form_of" "form_of" (defArgs st_form_of) (defBody st_form_of) (defScope st_form_of) dvs kws (He.ga K "form_of") fd) :
    FnOk P w K mg base (L2M.CX false P w) 6 (He.ga K "form_of") fd ["bands"] (spD (S0 K) 1 G_form_of) :=
  fnD_ok (S := S0 K) F sc_form_of fun n cdv A outer s H E hr =>
    have hnd := sc_form_of.nd
    have tk : L2M.Takes false (cxOf (L2M.CX false P w) P w K mg base nm_form_of "form_of" (defScope st_form_of) (He.ga K "form_of") cdv A outer s H E) (fun cls d _ H => E cls d H) := L2M.takes_of rfl rfl rfl rfl
    (pdss_cons (pds_cel hnd rfl (by first | exact Or.inl rfl | exact Or.inr rfl) pda_nil)
      (pdss_cons (pds_dct hnd rfl (by first | exact Or.inl rfl | exact Or.inr rfl))
      (pdss_cons (pds_set hnd rfl (by first | exact Or.inl rfl | exact Or.inr rfl) pd_int)
      (pdss_cons (pds_for (by exact PassesOwn.leaving) rfl (pdi_any rfl (pd_var (pv 0))) (pdg_tup rfl rfl (pdgs_cons (pdg_name hnd rfl (by first | exact Or.inl rfl | exact Or.inr rfl)) (pdgs_cons (pdg_name hnd rfl (by first | exact Or.inl rfl | exact Or.inr rfl)) (pdgs_cons (pdg_name hnd rfl (by first | exact Or.inl rfl | exact Or.inr rfl)) pdgs_nil))))
      (pdss_cons (pds_for (by exact PassesOwn.leaving) rfl (pdi_any rfl (pd_itT rfl rfl (pd_var (pv 2)) rfl T.f_list)) (pdg_tup rfl rfl (pdgs_cons (pdg_name hnd rfl (by first | exact Or.inl rfl | exact Or.inr rfl)) (pdgs_cons (pdg_name hnd rfl (by first | exact Or.inl rfl | exact Or.inr rfl)) pdgs_nil)))
      (pdss_one (pds_if (PDW.pt (pdw_or (pdt_cmp (po_in3T rfl hr) (pd_var (pv 7)) (pd_var (pv 6)) rfl) (pdw_or1 (pdt_cmp (po_ne rfl hr.units) (pd_var (pv 4)) (pd_op po_add (pd_var (pv 3)) pd_int) (nomark _)))))
      (pdss_cons (pds_app rfl (pd_var (pv 1)) (pd_mk rfl C_Block_init___mk hr (by decide) 4 (by decide) tk rfl (pda_cons (pd_var (pv 8)) (pda_cons (pd_ix rfl (pd_var (pv 7)) pd_int (fun _ _ => rfl)) (pda_cons (pd_var (pv 3)) (pda_cons (pd_ix rfl (pd_var (pv 7)) pd_int (fun _ _ => rfl)) pda_nil))))))
      (pdss_one (pds_popk rfl hr.units (pd_var (pv 2)) (pda_cons (pd_var (pv 7)) pda_nil))))
      pdss_nil)))
      (pdss_cons (pds_for (by exact PassesOwn.leaving) rfl (pdi_any rfl (pd_var (pv 6))) (pdg_name hnd rfl (by first | exact Or.inl rfl | exact Or.inr rfl))
      (pdss_one (pds_setd rfl hr.units (pd_var (pv 2)) (pda_cons (pd_var (pv 7)) (pda_cons (pd_var (pv 4)) pda_nil)))))
      (pdss_one (pds_set hnd rfl (by first | exact Or.inl rfl | exact Or.inr rfl) (pd_var (pv 5)))))))
      (pdss_cons (pds_ext rfl (pd_var (pv 1)) (pd_lock (lkVar 2) (pd_lc (own := [("run", 7), ("top", 8)]) rfl (by exact hnd) (pdi_itT rfl (pd_var (pv 2))) (blkOk_by (own := [("run", 7), ("top", 8)]) (N := ["bands", "found", "begun", "behind", "first", "last", "runs", "run", "top"]) (sc := defScope st_form_of) (by decide +kernel)) (by decide) (fun _ _ _ _ _ => (pdg_tup rfl rfl (pdgs_cons (pdg_name hnd rfl (by first | exact Or.inl rfl | exact Or.inr rfl)) (pdgs_cons (pdg_name hnd rfl (by first | exact Or.inl rfl | exact Or.inr rfl)) pdgs_nil)))) (fun _ _ _ _ _ => pdts_nil) (fun _ _ _ _ _ => (pd_mk rfl C_Block_init___mk hr (by decide) 4 (by decide) takesNo rfl (pda_cons (pd_var (pv 8)) (pda_cons (pd_ix rfl (pd_var (pv 7)) pd_int (fun _ _ => rfl)) (pda_cons (pd_var (pv 3)) (pda_cons (pd_ix rfl (pd_var (pv 7)) pd_int (fun _ _ => rfl)) pda_nil)))))))))
      (pdss_one (pds_ret (pd_sortK rfl C_first_cell_fn hr (by decide) hr.units8 rfl T.f_sorted rfl (pd_var (pv 1))))))))))
abbrev nm_stretches : List Str := ["cuts", "found", "k", "first", "last"]
theorem sc_stretches : FnScope nm_stretches ["cuts"] (defScope st_stretches) := ⟨rfl, rfl, rfl, by decide +kernel, rfl, by decide +kernel, by decide +kernel⟩
theorem ok_stretches {fd : FuncData} {dvs : List V} {kws : List (Str × V)} (T : Fx K mg)  (F : FunD K "stretches" "stretches" (defArgs st_stretches) (defBody st_stretches) (defScope st_stretches) dvs kws (He.ga K "stretches") fd) :
    FnOk P w K mg base (L2M.CX false P w) 1 (He.ga K "stretches") fd ["cuts"] (spD (S0 K) 1 G_stretches) :=
  fnD_ok (S := S0 K) F sc_stretches fun n cdv A outer s H E hr =>
    have hnd := sc_stretches.nd
    have tk : L2M.Takes false (cxOf (L2M.CX false P w) P w K mg base nm_stretches "stretches" (defScope st_stretches) (He.ga K "stretches") cdv A outer s H E) (fun cls d _ H => E cls d H) := L2M.takes_of rfl rfl rfl rfl
    (pdss_cons (pds_set hnd rfl (by first | exact Or.inl rfl | exact Or.inr rfl) (pd_sortSet rfl rfl rfl T.f_sorted rfl T.f_set (pd_var (pv 0))))
      (pdss_cons (pds_cel hnd rfl (by first | exact Or.inl rfl | exact Or.inr rfl) pda_nil)
      (pdss_cons (pds_for (by exact PassesOwn.leaving) rfl (pdi_enum rfl rfl T.f_enumerate (pda_cons (pd_var (pv 0)) pda_nil)) (pdg_tup rfl rfl (pdgs_cons (pdg_name hnd rfl (by first | exact Or.inl rfl | exact Or.inr rfl)) (pdgs_cons (pdg_name hnd rfl (by first | exact Or.inl rfl | exact Or.inr rfl)) pdgs_nil)))
      (pdss_cons (pds_set hnd rfl (by first | exact Or.inl rfl | exact Or.inr rfl) pd_non)
      (pdss_cons (pds_if (pdt_cmp po_lt (pd_op po_add (pd_var (pv 2)) pd_int) (pd_blt (pb_len rfl) rfl T.f_len (by decide +kernel) (pda_cons (pd_var (pv 0)) pda_nil)) (nomark _))
      (pdss_one (pds_set hnd rfl (by first | exact Or.inl rfl | exact Or.inr rfl) (pd_op po_sub (pd_ix rfl (pd_var (pv 0)) (pd_op po_add (pd_var (pv 2)) pd_int) (fun _ _ => rfl)) pd_int)))
      pdss_nil)
      (pdss_one (pds_app rfl (pd_var (pv 1)) (pd_tup (pda_cons (pd_var (pv 3)) (pda_cons (pd_var (pv 4)) pda_nil))))))))
      (pdss_one (pds_ret (pd_var (pv 1)))))))
abbrev nm_cuts_of : List Str := ["ends", "first", "last"]
theorem sc_cuts_of : FnScope nm_cuts_of ["ends"] (defScope st_cuts_of) := ⟨rfl, rfl, rfl, by decide +kernel, rfl, by decide +kernel, by decide +kernel⟩
theorem ok_cuts_of {fd : FuncData} {dvs : List V} {kws : List (Str × V)} (T : Fx K mg)  (F : FunD K "cuts_of" "cuts_of" (defArgs st_cuts_of) (defBody st_cuts_of) (defScope st_cuts_of) dvs kws (He.ga K "cuts_of") fd) :
    FnOk P w K mg base (L2M.CX false P w) 1 (He.ga K "cuts_of") fd ["ends"] (spD (S0 K) 1 G_cuts_of) :=
  fnD_ok (S := S0 K) F sc_cuts_of fun n cdv A outer s H E hr =>
    have hnd := sc_cuts_of.nd
    have tk : L2M.Takes false (cxOf (L2M.CX false P w) P w K mg base nm_cuts_of "cuts_of" (defScope st_cuts_of) (He.ga K "cuts_of") cdv A outer s H E) (fun cls d _ H => E cls d H) := L2M.takes_of rfl rfl rfl rfl
    (pdss_one (pds_ret (pd_op po_add (pd_lc (own := [("first", 1), ("last", 2)]) rfl (by exact hnd) (pdi_any rfl (pd_var (pv 0))) (blkOk_by (own := [("first", 1), ("last", 2)]) (N := ["ends", "first", "last"]) (sc := defScope st_cuts_of) (by decide +kernel)) (by decide) (fun _ _ _ _ _ => (pdg_tup rfl rfl (pdgs_cons (pdg_name hnd rfl (by first | exact Or.inl rfl | exact Or.inr rfl)) (pdgs_cons (pdg_name hnd rfl (by first | exact Or.inl rfl | exact Or.inr rfl)) pdgs_nil)))) (fun _ _ _ _ _ => pdts_nil) (fun _ _ _ _ _ => (pd_var (pv 1)))) (pd_lc (own := [("first", 1), ("last", 2)]) rfl (by exact hnd) (pdi_any rfl (pd_var (pv 0))) (blkOk_by (own := [("first", 1), ("last", 2)]) (N := ["ends", "first", "last"]) (sc := defScope st_cuts_of) (by decide +kernel)) (by decide) (fun _ _ _ _ _ => (pdg_tup rfl rfl (pdgs_cons (pdg_name hnd rfl (by first | exact Or.inl rfl | exact Or.inr rfl)) (pdgs_cons (pdg_name hnd rfl (by first | exact Or.inl rfl | exact Or.inr rfl)) pdgs_nil)))) (fun _ _ _ _ _ => (pdts_one (pdt_cmp po_isN (pd_var (pv 2)) pd_non (nomark _)))) (fun _ _ _ _ _ => (pd_op po_add (pd_var (pv 2)) pd_int))))))
abbrev nm_is_at : List Str := ["first", "last", "number"]
theorem sc_is_at : FnScope nm_is_at ["first", "last", "number"] (defScope st_is_at) := ⟨rfl, rfl, rfl, by decide +kernel, rfl, by decide +kernel, by decide +kernel⟩
theorem ok_is_at {fd : FuncData} {dvs : List V} {kws : List (Str × V)} (T : Fx K mg)  (F : FunD K "is_at" "is_at" (defArgs st_is_at) (defBody st_is_at) (defScope st_is_at) dvs kws (He.ga K "is_at") fd) :
    FnOk P w K mg base (L2M.CX false P w) 1 (He.ga K "is_at") fd ["first", "last", "number"] (spD (S0 K) 3 G_is_at) :=
  fnD_ok (S := S0 K) F sc_is_at fun n cdv A outer s H E hr =>
    have hnd := sc_is_at.nd
    have tk : L2M.Takes false (cxOf (L2M.CX false P w) P w K mg base nm_is_at "is_at" (defScope st_is_at) (He.ga K "is_at") cdv A outer s H E) (fun cls d _ H => E cls d H) := L2M.takes_of rfl rfl rfl rfl
    (pdss_one (pds_ret (pd_and rfl (pd_cmp po_le (pd_var (pv 0)) (pd_var (pv 2)) (nomark _)) (pd_one (pd_or rfl (pd_cmp po_is (pd_var (pv 1)) pd_non (nomark _)) (pd_one (pd_cmp po_le (pd_var (pv 2)) (pd_var (pv 1)) (nomark _))))))))
abbrev nm_one_alone : List Str := ["one", "other"]
theorem sc_one_alone : FnScope nm_one_alone ["one", "other"] (defScope st_one_alone) := ⟨rfl, rfl, rfl, by decide +kernel, rfl, by decide +kernel, by decide +kernel⟩
theorem ok_one_alone {fd : FuncData} {dvs : List V} {kws : List (Str × V)} (T : Fx K mg)  (F : FunD K "one_alone" "one_alone" (defArgs st_one_alone) (defBody st_one_alone) (defScope st_one_alone) dvs kws (He.ga K "one_alone") fd) :
    FnOk P w K mg base (L2M.CX false P w) 1 (He.ga K "one_alone") fd ["one", "other"] (spD (S0 K) 2 G_one_alone) :=
  fnD_ok (S := S0 K) F sc_one_alone fun n cdv A outer s H E hr =>
    have hnd := sc_one_alone.nd
    have tk : L2M.Takes false (cxOf (L2M.CX false P w) P w K mg base nm_one_alone "one_alone" (defScope st_one_alone) (He.ga K "one_alone") cdv A outer s H E) (fun cls d _ H => E cls d H) := L2M.takes_of rfl rfl rfl rfl
    (pdss_one (pds_ret (pd_and rfl (pd_var (pv 0)) (pd_one (pd_not rfl (pd_var (pv 1)))))))
abbrev nm_either : List Str := ["one", "other"]
theorem sc_either : FnScope nm_either ["one", "other"] (defScope st_either) := ⟨rfl, rfl, rfl, by decide +kernel, rfl, by decide +kernel, by decide +kernel⟩
theorem ok_either {fd : FuncData} {dvs : List V} {kws : List (Str × V)} (T : Fx K mg)  (F : FunD K "either" "either" (defArgs st_either) (defBody st_either) (defScope st_either) dvs kws (He.ga K "either") fd) :
    FnOk P w K mg base (L2M.CX false P w) 1 (He.ga K "either") fd ["one", "other"] (spD (S0 K) 2 G_either) :=
  fnD_ok (S := S0 K) F sc_either fun n cdv A outer s H E hr =>
    have hnd := sc_either.nd
    have tk : L2M.Takes false (cxOf (L2M.CX false P w) P w K mg base nm_either "either" (defScope st_either) (He.ga K "either") cdv A outer s H E) (fun cls d _ H => E cls d H) := L2M.takes_of rfl rfl rfl rfl
    (pdss_one (pds_ret (pd_or rfl (pd_var (pv 0)) (pd_one (pd_var (pv 1))))))
abbrev nm_with_run : List Str := ["runs", "first", "last"]
theorem sc_with_run : FnScope nm_with_run ["runs", "first", "last"] (defScope st_with_run) := ⟨rfl, rfl, rfl, by decide +kernel, rfl, by decide +kernel, by decide +kernel⟩
theorem ok_with_run {fd : FuncData} {dvs : List V} {kws : List (Str × V)} (T : Fx K mg)  (F : FunD K "with_run" "with_run" (defArgs st_with_run) (defBody st_with_run) (defScope st_with_run) dvs kws (He.ga K "with_run") fd) :
    FnOk P w K mg base (L2M.CX false P w) 1 (He.ga K "with_run") fd ["runs", "first", "last"] (spD (S0 K) 3 G_with_run) :=
  fnD_ok (S := S0 K) F sc_with_run fun n cdv A outer s H E hr =>
    have hnd := sc_with_run.nd
    have tk : L2M.Takes false (cxOf (L2M.CX false P w) P w K mg base nm_with_run "with_run" (defScope st_with_run) (He.ga K "with_run") cdv A outer s H E) (fun cls d _ H => E cls d H) := L2M.takes_of rfl rfl rfl rfl
    (pdss_cons (pds_if (PDW.pt (pdw_and (pdt_cmp (po_ne rfl hr.units) (pd_var (pv 0)) (pd_lst pda_nil) (nomark _)) (pdw_and1 (pdt_cmp (po_eq rfl hr.units) (pd_ix rfl (pd_ix rfl (pd_var (pv 0)) (pd_neg pd_int) (fun _ _ => rfl)) pd_int (fun _ _ => rfl)) (pd_op po_sub (pd_var (pv 1)) pd_int) (nomark _)))))
      (pdss_one (pds_ret (pd_op po_add (pd_slc rfl (pd_var (pv 0)) pdp_none (pdp_some (pd_neg pd_int))) (pd_lst (pda_cons (pd_tup (pda_cons (pd_ix rfl (pd_ix rfl (pd_var (pv 0)) (pd_neg pd_int) (fun _ _ => rfl)) pd_int (fun _ _ => rfl)) (pda_cons (pd_var (pv 2)) pda_nil))) pda_nil)))))
      pdss_nil)
      (pdss_one (pds_ret (pd_op po_add (pd_var (pv 0)) (pd_lst (pda_cons (pd_tup (pda_cons (pd_var (pv 1)) (pda_cons (pd_var (pv 2)) pda_nil))) pda_nil))))))
abbrev nm_runs_by : List Str := ["one", "other", "keeps", "found", "first", "last", "in_one", "run", "in_other"]
theorem sc_runs_by : FnScope nm_runs_by ["one", "other", "keeps"] (defScope st_runs_by) := ⟨rfl, rfl, rfl, by decide +kernel, rfl, by decide +kernel, by decide +kernel⟩
theorem ok_runs_by {fd : FuncData} {dvs : List V} {kws : List (Str × V)} (T : Fx K mg) (C_stretches_fn : CalD false P w K mg base (S0 K) 1 "stretches" 1 G_stretches dfl_stretches) (C_cuts_of_fn : CalD false P w K mg base (S0 K) 1 "cuts_of" 1 G_cuts_of dfl_cuts_of) (C_is_at_fn : CalD false P w K mg base (S0 K) 1 "is_at" 3 G_is_at dfl_is_at) (C_one_alone_fn : CalD false P w K mg base (S0 K) 1 "one_alone" 2 G_one_alone dfl_one_alone) (C_either_fn : CalD false P w K mg base (S0 K) 1 "either" 2 G_either dfl_either) (C_with_run_fn : CalD false P w K mg base (S0 K) 1 "with_run" 3 G_with_run dfl_with_run) (F : FunD K "runs_by" "runs_by" (defArgs st_runs_by) (defBody st_runs_by) (defScope st_runs_by) dvs kws (He.ga K "runs_by") fd) :
    FnOk P w K mg base (L2M.CX false P w) 2 (He.ga K "runs_by") fd ["one", "other", "keeps"] (spD (S0 K) 3 G_runs_by) :=
  fnD_ok (S := S0 K) F sc_runs_by fun n cdv A outer s H E hr =>
    have hnd := sc_runs_by.nd
    have tk : L2M.Takes false (cxOf (L2M.CX false P w) P w K mg base nm_runs_by "runs_by" (defScope st_runs_by) (He.ga K "runs_by") cdv A outer s H E) (fun cls d _ H => E cls d H) := L2M.takes_of rfl rfl rfl rfl
    (pdss_cons (pds_set hnd rfl (by first | exact Or.inl rfl | exact Or.inr rfl) (pd_lst pda_nil))
      (pdss_cons (pds_for (by exact PassesOwn.leaving) rfl (pdi_any rfl (pd_c C_stretches_fn hr (by decide) 0 (by decide) tk rfl (pda_cons (pd_c C_cuts_of_fn hr (by decide) 0 (by decide) tk rfl (pda_cons (pd_op po_add (pd_var (pv 0)) (pd_var (pv 1))) pda_nil)) pda_nil))) (pdg_tup rfl rfl (pdgs_cons (pdg_name hnd rfl (by first | exact Or.inl rfl | exact Or.inr rfl)) (pdgs_cons (pdg_name hnd rfl (by first | exact Or.inl rfl | exact Or.inr rfl)) pdgs_nil)))
      (pdss_cons (pds_set hnd rfl (by first | exact Or.inl rfl | exact Or.inr rfl) (pd_blt (pb_any rfl rfl) rfl T.f_any (by decide +kernel) (pda_cons (pd_lc (own := [("run", 7)]) rfl (by exact hnd) (pdi_any rfl (pd_var (pv 0))) (blkOk_by (own := [("run", 7)]) (N := ["one", "other", "keeps", "found", "first", "last", "in_one", "run", "in_other"]) (sc := defScope st_runs_by) (by decide +kernel)) (by decide) (fun _ _ _ _ _ => (pdg_name hnd rfl (by first | exact Or.inl rfl | exact Or.inr rfl))) (fun _ _ _ _ _ => pdts_nil) (fun _ _ _ _ _ => (pd_c C_is_at_fn hr (by decide) 0 (by decide) takesNo rfl (pda_cons (pd_ix rfl (pd_var (pv 7)) pd_int (fun _ _ => rfl)) (pda_cons (pd_ix rfl (pd_var (pv 7)) pd_int (fun _ _ => rfl)) (pda_cons (pd_var (pv 4)) pda_nil)))))) pda_nil)))
      (pdss_cons (pds_set hnd rfl (by first | exact Or.inl rfl | exact Or.inr rfl) (pd_blt (pb_any rfl rfl) rfl T.f_any (by decide +kernel) (pda_cons (pd_lc (own := [("run", 7)]) rfl (by exact hnd) (pdi_any rfl (pd_var (pv 1))) (blkOk_by (own := [("run", 7)]) (N := ["one", "other", "keeps", "found", "first", "last", "in_one", "run", "in_other"]) (sc := defScope st_runs_by) (by decide +kernel)) (by decide) (fun _ _ _ _ _ => (pdg_name hnd rfl (by first | exact Or.inl rfl | exact Or.inr rfl))) (fun _ _ _ _ _ => pdts_nil) (fun _ _ _ _ _ => (pd_c C_is_at_fn hr (by decide) 0 (by decide) takesNo rfl (pda_cons (pd_ix rfl (pd_var (pv 7)) pd_int (fun _ _ => rfl)) (pda_cons (pd_ix rfl (pd_var (pv 7)) pd_int (fun _ _ => rfl)) (pda_cons (pd_var (pv 4)) pda_nil)))))) pda_nil)))
      (pdss_one (pds_if (pdt_tru rfl (pd_ca_cons (i := 2) rfl T.g_either C_either_fn hr (by decide) tk rfl (by first | exact .inl rfl | exact .inr (.inl rfl) | exact .inr (.inr rfl)) (pda_cons (pd_var (pv 6)) (pda_cons (pd_var (pv 8)) pda_nil)) (pd_ca_cons (i := 2) rfl T.g_one_alone C_one_alone_fn hr (by decide) tk rfl (by first | exact .inl rfl | exact .inr (.inl rfl) | exact .inr (.inr rfl)) (pda_cons (pd_var (pv 6)) (pda_cons (pd_var (pv 8)) pda_nil)) pd_ca_nil)))
      (pdss_one (pds_set hnd rfl (by first | exact Or.inl rfl | exact Or.inr rfl) (pd_c C_with_run_fn hr (by decide) 0 (by decide) tk rfl (pda_cons (pd_var (pv 3)) (pda_cons (pd_var (pv 4)) (pda_cons (pd_var (pv 5)) pda_nil))))))
      pdss_nil)))))
      (pdss_one (pds_ret (pd_var (pv 3))))))
abbrev nm_columns_at : List Str := ["blocks", "row", "block"]
theorem sc_columns_at : FnScope nm_columns_at ["blocks", "row"] (defScope st_columns_at) := ⟨rfl, rfl, rfl, by decide +kernel, rfl, by decide +kernel, by decide +kernel⟩
theorem ok_columns_at {fd : FuncData} {dvs : List V} {kws : List (Str × V)} (T : Fx K mg) (C_is_at_fn : CalD false P w K mg base (S0 K) 1 "is_at" 3 G_is_at dfl_is_at) (F : FunD K "columns_at" "columns_at" (defArgs st_columns_at) (defBody st_columns_at) (defScope st_columns_at) dvs kws (He.ga K "columns_at") fd) :
    FnOk P w K mg base (L2M.CX false P w) 2 (He.ga K "columns_at") fd ["blocks", "row"] (spD (S0 K) 2 G_columns_at) :=
  fnD_ok (S := S0 K) F sc_columns_at fun n cdv A outer s H E hr =>
    have hnd := sc_columns_at.nd
    have tk : L2M.Takes false (cxOf (L2M.CX false P w) P w K mg base nm_columns_at "columns_at" (defScope st_columns_at) (He.ga K "columns_at") cdv A outer s H E) (fun cls d _ H => E cls d H) := L2M.takes_of rfl rfl rfl rfl
    (pdss_one (pds_ret (pd_lc (own := [("block", 2)]) rfl (by exact hnd) (pdi_any rfl (pd_var (pv 0))) (blkOk_by (own := [("block", 2)]) (N := ["blocks", "row", "block"]) (sc := defScope st_columns_at) (by decide +kernel)) (by decide) (fun _ _ _ _ _ => (pdg_name hnd rfl (by first | exact Or.inl rfl | exact Or.inr rfl))) (fun _ _ _ _ _ => (pdts_one (pdt_tru rfl (pd_c C_is_at_fn hr (by decide) 0 (by decide) takesNo rfl (pda_cons (pd_fld rfl (T.n_top n) (pd_var (pv 2))) (pda_cons (pd_fld rfl (T.n_bottom n) (pd_var (pv 2))) (pda_cons (pd_var (pv 1)) pda_nil))))))) (fun _ _ _ _ _ => (pd_tup (pda_cons (pd_fld rfl (T.n_left n) (pd_var (pv 2))) (pda_cons (pd_fld rfl (T.n_right n) (pd_var (pv 2))) pda_nil)))))))
abbrev nm_bands_by : List Str := ["one", "other", "keeps", "found", "first", "last", "block", "runs"]
theorem sc_bands_by : FnScope nm_bands_by ["one", "other", "keeps"] (defScope st_bands_by) := ⟨rfl, rfl, rfl, by decide +kernel, rfl, by decide +kernel, by decide +kernel⟩
theorem ok_bands_by {fd : FuncData} {dvs : List V} {kws : List (Str × V)} (T : Fx K mg) (C_stretches_fn : CalD false P w K mg base (S0 K) 1 "stretches" 1 G_stretches dfl_stretches) (C_cuts_of_fn : CalD false P w K mg base (S0 K) 1 "cuts_of" 1 G_cuts_of dfl_cuts_of) (C_runs_by_fn : CalD false P w K mg base (S0 K) 2 "runs_by" 3 G_runs_by dfl_runs_by) (C_columns_at_fn : CalD false P w K mg base (S0 K) 2 "columns_at" 2 G_columns_at dfl_columns_at) (F : FunD K "bands_by" "bands_by" (defArgs st_bands_by) (defBody st_bands_by) (defScope st_bands_by) dvs kws (He.ga K "bands_by") fd) :
    FnOk P w K mg base (L2M.CX false P w) 3 (He.ga K "bands_by") fd ["one", "other", "keeps"] (spD (S0 K) 3 G_bands_by) :=
  fnD_ok (S := S0 K) F sc_bands_by fun n cdv A outer s H E hr =>
    have hnd := sc_bands_by.nd
    have tk : L2M.Takes false (cxOf (L2M.CX false P w) P w K mg base nm_bands_by "bands_by" (defScope st_bands_by) (He.ga K "bands_by") cdv A outer s H E) (fun cls d _ H => E cls d H) := L2M.takes_of rfl rfl rfl rfl
    (pdss_cons (pds_cel hnd rfl (by first | exact Or.inl rfl | exact Or.inr rfl) pda_nil)
      (pdss_cons (pds_for (by exact PassesOwn.leaving) rfl (pdi_any rfl (pd_c C_stretches_fn hr (by decide) 0 (by decide) tk rfl (pda_cons (pd_c C_cuts_of_fn hr (by decide) 0 (by decide) tk rfl (pda_cons (pd_lc (own := [("block", 6)]) rfl (by exact hnd) (pdi_any rfl (pd_op po_add (pd_var (pv 0)) (pd_var (pv 1)))) (blkOk_by (own := [("block", 6)]) (N := ["one", "other", "keeps", "found", "first", "last", "block", "runs"]) (sc := defScope st_bands_by) (by decide +kernel)) (by decide) (fun _ _ _ _ _ => (pdg_name hnd rfl (by first | exact Or.inl rfl | exact Or.inr rfl))) (fun _ _ _ _ _ => pdts_nil) (fun _ _ _ _ _ => (pd_tup (pda_cons (pd_fld rfl (T.n_top n) (pd_var (pv 6))) (pda_cons (pd_fld rfl (T.n_bottom n) (pd_var (pv 6))) pda_nil))))) pda_nil)) pda_nil))) (pdg_tup rfl rfl (pdgs_cons (pdg_name hnd rfl (by first | exact Or.inl rfl | exact Or.inr rfl)) (pdgs_cons (pdg_name hnd rfl (by first | exact Or.inl rfl | exact Or.inr rfl)) pdgs_nil)))
      (pdss_cons (pds_set hnd rfl (by first | exact Or.inl rfl | exact Or.inr rfl) (pd_c C_runs_by_fn hr (by decide) 0 (by decide) tk rfl (pda_cons (pd_c C_columns_at_fn hr (by decide) 0 (by decide) tk rfl (pda_cons (pd_var (pv 0)) (pda_cons (pd_var (pv 4)) pda_nil))) (pda_cons (pd_c C_columns_at_fn hr (by decide) 0 (by decide) tk rfl (pda_cons (pd_var (pv 1)) (pda_cons (pd_var (pv 4)) pda_nil))) (pda_cons (pd_var (pv 2)) pda_nil)))))
      (pdss_one (pds_if (pdt_cmp (po_ne rfl hr.units) (pd_var (pv 7)) (pd_lst pda_nil) (nomark _))
      (pdss_one (pds_app rfl (pd_var (pv 3)) (pd_tup (pda_cons (pd_var (pv 4)) (pda_cons (pd_var (pv 5)) (pda_cons (pd_var (pv 7)) pda_nil))))))
      pdss_nil))))
      (pdss_one (pds_ret (pd_var (pv 3))))))
abbrev nm_Area_init__ : List Str := ["self", "blocks"]
theorem sc_Area_init__ : FnScope nm_Area_init__ ["self", "blocks"] (defScope st_Area_init__) := ⟨rfl, rfl, rfl, by decide +kernel, rfl, by decide +kernel, by decide +kernel⟩
theorem ok_Area_init__ {fd : FuncData} {dvs : List V} {kws : List (Str × V)} (T : Fx K mg) (C_checked_blocks_fn : CalD false P w K mg base (S0 K) 1 "checked_blocks" 1 G_checked_blocks dfl_checked_blocks) (C_form_of_fn : CalD false P w K mg base (S0 K) 6 "form_of" 1 G_form_of dfl_form_of) (C_bands_by_fn : CalD false P w K mg base (S0 K) 3 "bands_by" 3 G_bands_by dfl_bands_by) (F : FunD K "__init__" "Area.__init__" (defArgs st_Area_init__) (defBody st_Area_init__) (defScope st_Area_init__) dvs kws (He.ma K (He.ga K "Area") "__init__") fd) :
    FnOk P w K mg base (L2M.CX false P w) 7 (He.ma K (He.ga K "Area") "__init__") fd ["self", "blocks"] (spD (S0 K) 2 G_Area_init__) :=
  fnD_ok (S := S0 K) F sc_Area_init__ fun n cdv A outer s H E hr =>
    have hnd := sc_Area_init__.nd
    have tk : L2M.Takes false (cxOf (L2M.CX false P w) P w K mg base nm_Area_init__ "Area.__init__" (defScope st_Area_init__) (He.ma K (He.ga K "Area") "__init__") cdv A outer s H E) (fun cls d _ H => E cls d H) := L2M.takes_of rfl rfl rfl rfl
    (pdss_cons (pds_if (pdt_cmp po_is (pd_var (pv 1)) pd_non (nomark _))
      (pdss_one (pds_set hnd rfl (by first | exact Or.inl rfl | exact Or.inr rfl) (pd_lst pda_nil)))
      pdss_nil)
      (pdss_cons (pds_exp (pd_c C_checked_blocks_fn hr (by decide) 0 (by decide) tk rfl (pda_cons (pd_var (pv 1)) pda_nil)))
      (pdss_one (pds_fld rfl (T.n_form n) (pd_var (pv 0)) (pd_c C_form_of_fn hr (by decide) 0 (by decide) tk rfl (pda_cons (pd_c C_bands_by_fn hr (by decide) 0 (by decide) tk rfl (pda_cons (pd_var (pv 1)) (pda_cons (pd_lst pda_nil) (pda_cons (pd_glo rfl T.g_either) pda_nil)))) pda_nil))))))
abbrev nm_law_made : List Str := ["_law_blocks", "_law_top", "_law_left", "_law_bottom", "_law_right"]
theorem sc_law_made : FnScope nm_law_made ["_law_blocks"] (defScope st_law_made) := ⟨rfl, rfl, rfl, by decide +kernel, rfl, by decide +kernel, by decide +kernel⟩
theorem ok_law_made {fd : FuncData} {dvs : List V} {kws : List (Str × V)} (T : Fx K mg) (C_Block_init___mk : MakD false P w K mg base (S0 K) 4 "Block" 5 G_Block_init__ dfl_Block_init__) (F : FunD K "_law_made" "_law_made" (defArgs st_law_made) (defBody st_law_made) (defScope st_law_made) dvs kws (He.ga K "_law_made") fd) :
    FnOk P w K mg base (L2M.CX false P w) 6 (He.ga K "_law_made") fd ["_law_blocks"] (spD (S0 K) 1 G_law_made_k12) :=
  fnD_ok (S := S0 K) F sc_law_made fun n cdv A outer s H E hr =>
    have hnd := sc_law_made.nd
    have tk : L2M.Takes false (cxOf (L2M.CX false P w) P w K mg base nm_law_made "_law_made" (defScope st_law_made) (He.ga K "_law_made") cdv A outer s H E) (fun cls d _ H => E cls d H) := L2M.takes_of rfl rfl rfl rfl
    (pdss_one (pds_ret (pd_lc (own := [("_law_top", 1), ("_law_left", 2), ("_law_bottom", 3), ("_law_right", 4)]) rfl (by exact hnd) (pdi_any rfl (pd_var (pv 0))) (blkOk_by (own := [("_law_top", 1), ("_law_left", 2), ("_law_bottom", 3), ("_law_right", 4)]) (N := ["_law_blocks", "_law_top", "_law_left", "_law_bottom", "_law_right"]) (sc := defScope st_law_made) (by decide +kernel)) (by decide) (fun _ _ _ _ _ => (pdg_tup rfl rfl (pdgs_cons (pdg_name hnd rfl (by first | exact Or.inl rfl | exact Or.inr rfl)) (pdgs_cons (pdg_name hnd rfl (by first | exact Or.inl rfl | exact Or.inr rfl)) (pdgs_cons (pdg_name hnd rfl (by first | exact Or.inl rfl | exact Or.inr rfl)) (pdgs_cons (pdg_name hnd rfl (by first | exact Or.inl rfl | exact Or.inr rfl)) pdgs_nil)))))) (fun _ _ _ _ _ => pdts_nil) (fun _ _ _ _ _ => (pd_mk rfl C_Block_init___mk hr (by decide) 4 (by decide) takesNo rfl (pda_cons (pd_var (pv 1)) (pda_cons (pd_var (pv 2)) (pda_cons (pd_var (pv 3)) (pda_cons (pd_var (pv 4)) pda_nil)))))))))
abbrev nm_law_near : List Str := ["_law_source_here", "_law_ends_here", "_law_some", "_law_end", "_law_far", "_law_at"]
theorem sc_law_near : FnScope nm_law_near ["_law_source_here", "_law_ends_here"] (defScope st_law_near) := ⟨rfl, rfl, rfl, by decide +kernel, rfl, by decide +kernel, by decide +kernel⟩
theorem ok_law_near {fd : FuncData} {dvs : List V} {kws : List (Str × V)} (T : Fx K mg) (C_law_next_fn : CalD false P w K mg base (S0 K) 2 "_law_next" 2 G_law_next dfl_law_next) (F : FunD K "_law_near" "_law_near" (defArgs st_law_near) (defBody st_law_near) (defScope st_law_near) dvs kws (He.ga K "_law_near") fd) :
    FnOk P w K mg base (L2M.CX false P w) 3 (He.ga K "_law_near") fd ["_law_source_here", "_law_ends_here"] (spD (S0 K) 2 G_law_near_k12) :=
  fnD_ok (S := S0 K) F sc_law_near fun n cdv A outer s H E hr =>
    have hnd := sc_law_near.nd
    have tk : L2M.Takes false (cxOf (L2M.CX false P w) P w K mg base nm_law_near "_law_near" (defScope st_law_near) (He.ga K "_law_near") cdv A outer s H E) (fun cls d _ H => E cls d H) := L2M.takes_of rfl rfl rfl rfl
    (pdss_cons (pds_set hnd rfl (by first | exact Or.inl rfl | exact Or.inr rfl) (pd_op po_add (pd_lc (own := [("_law_end", 3)]) rfl (by exact hnd) (pdi_any rfl (pd_var (pv 1))) (blkOk_by (own := [("_law_end", 3)]) (N := ["_law_source_here", "_law_ends_here", "_law_some", "_law_end", "_law_far", "_law_at"]) (sc := defScope st_law_near) (by decide +kernel)) (by decide) (fun _ _ _ _ _ => (pdg_name hnd rfl (by first | exact Or.inl rfl | exact Or.inr rfl))) (fun _ _ _ _ _ => (pdts_one (pdt_cmp po_isN (pd_var (pv 3)) pd_non (nomark _)))) (fun _ _ _ _ _ => (pd_var (pv 3)))) (pd_lst (pda_cons pd_int pda_nil))))
      (pdss_cons (pds_set hnd rfl (by first | exact Or.inl rfl | exact Or.inr rfl) (pd_op po_add pd_int (pd_c C_law_next_fn hr (by decide) 0 (by decide) tk rfl (pda_cons (pd_var (pv 0)) (pda_cons (pd_op po_pow pd_int pd_int) pda_nil)))))
      (pdss_cons (pds_set hnd rfl (by first | exact Or.inl rfl | exact Or.inr rfl) (pd_ix rfl (pd_var (pv 2)) (pd_c C_law_next_fn hr (by decide) 0 (by decide) tk rfl (pda_cons (pd_var (pv 0)) (pda_cons (pd_blt (pb_len rfl) rfl T.f_len (by decide +kernel) (pda_cons (pd_var (pv 2)) pda_nil)) pda_nil))) (fun _ _ => rfl)))
      (pdss_one (pds_ret (pd_blt (pb_max rfl) rfl T.f_max (by decide +kernel) (pda_cons pd_int (pda_cons (pd_ix rfl (pd_lst (pda_cons (pd_var (pv 5)) (pda_cons (pd_op po_sub (pd_var (pv 5)) pd_int) (pda_cons (pd_op po_add (pd_var (pv 5)) pd_int) (pda_cons (pd_var (pv 4)) pda_nil))))) (pd_c C_law_next_fn hr (by decide) 0 (by decide) tk rfl (pda_cons (pd_var (pv 0)) (pda_cons pd_int pda_nil))) (fun _ _ => rfl)) pda_nil))))))))
abbrev nm_is_cell : List Str := ["thing", "part"]
theorem sc_is_cell : FnScope nm_is_cell ["thing"] (defScope st_is_cell) := ⟨rfl, rfl, rfl, by decide +kernel, rfl, by decide +kernel, by decide +kernel⟩
theorem ok_is_cell {fd : FuncData} {dvs : List V} {kws : List (Str × V)} (T : Fx K mg) (C_is_count_fn : CalD false P w K mg base (S0 K) 2 "is_count" 1 G_is_count dfl_is_count) (F : FunD K "is_cell" "is_cell" (defArgs st_is_cell) (defBody st_is_cell) (defScope st_is_cell) dvs kws (He.ga K "is_cell") fd) :
    FnOk P w K mg base (L2M.CX false P w) 3 (He.ga K "is_cell") fd ["thing"] (spD (S0 K) 1 G_is_cell) :=
  fnD_ok (S := S0 K) F sc_is_cell fun n cdv A outer s H E hr =>
    have hnd := sc_is_cell.nd
    have tk : L2M.Takes false (cxOf (L2M.CX false P w) P w K mg base nm_is_cell "is_cell" (defScope st_is_cell) (He.ga K "is_cell") cdv A outer s H E) (fun cls d _ H => E cls d H) := L2M.takes_of rfl rfl rfl rfl
    (pdss_one (pds_ret (pd_and rfl (pd_blt (pb_isi rfl (T.ins n) (T.k_tuple n)) rfl T.f_isinstance (by decide +kernel) (pda_cons (pd_var (pv 0)) (pda_cons (pd_bvl rfl T.f_tuple (by decide +kernel)) pda_nil))) (pd_and rfl (pd_cmp (po_eq rfl hr.units) (pd_blt (pb_len rfl) rfl T.f_len (by decide +kernel) (pda_cons (pd_var (pv 0)) pda_nil)) pd_int (nomark _)) (pd_one (pd_blt (pb_all rfl rfl) rfl T.f_all (by decide +kernel) (pda_cons (pd_lc (own := [("part", 1)]) rfl (by exact hnd) (pdi_any rfl (pd_var (pv 0))) (blkOk_by (own := [("part", 1)]) (N := ["thing", "part"]) (sc := defScope st_is_cell) (by decide +kernel)) (by decide) (fun _ _ _ _ _ => (pdg_name hnd rfl (by first | exact Or.inl rfl | exact Or.inr rfl))) (fun _ _ _ _ _ => pdts_nil) (fun _ _ _ _ _ => (pd_c C_is_count_fn hr (by decide) 0 (by decide) takesNo rfl (pda_cons (pd_var (pv 1)) pda_nil)))) pda_nil)))))))
abbrev nm_checked_cell : List Str := ["thing"]
theorem sc_checked_cell : FnScope nm_checked_cell ["thing"] (defScope st_checked_cell) := ⟨rfl, rfl, rfl, by decide +kernel, rfl, by decide +kernel, by decide +kernel⟩
theorem ok_checked_cell {fd : FuncData} {dvs : List V} {kws : List (Str × V)} (T : Fx K mg) (C_is_cell_fn : CalD false P w K mg base (S0 K) 3 "is_cell" 1 G_is_cell dfl_is_cell) (F : FunD K "checked_cell" "checked_cell" (defArgs st_checked_cell) (defBody st_checked_cell) (defScope st_checked_cell) dvs kws (He.ga K "checked_cell") fd) :
    FnOk P w K mg base (L2M.CX false P w) 4 (He.ga K "checked_cell") fd ["thing"] (spD (S0 K) 1 G_checked_cell) :=
  fnD_ok (S := S0 K) F sc_checked_cell fun n cdv A outer s H E hr =>
    have hnd := sc_checked_cell.nd
    have tk : L2M.Takes false (cxOf (L2M.CX false P w) P w K mg base nm_checked_cell "checked_cell" (defScope st_checked_cell) (He.ga K "checked_cell") cdv A outer s H E) (fun cls d _ H => E cls d H) := L2M.takes_of rfl rfl rfl rfl
    (pdss_one (pds_if (pdt_not (pdt_tru rfl (pd_c C_is_cell_fn hr (by decide) 0 (by decide) tk rfl (pda_cons (pd_var (pv 0)) pda_nil))))
      (pdss_one (pds_raise rfl (T.x_NoCell n) rfl tk rfl T.g_NoCell))
      pdss_nil))
abbrev nm_Block_has : List Str := ["self", "cell", "row", "column"]
theorem sc_Block_has : FnScope nm_Block_has ["self", "cell"] (defScope st_Block_has) := ⟨rfl, rfl, rfl, by decide +kernel, rfl, by decide +kernel, by decide +kernel⟩
theorem ok_Block_has {fd : FuncData} {dvs : List V} {kws : List (Str × V)} (T : Fx K mg) (C_checked_cell_fn : CalD false P w K mg base (S0 K) 4 "checked_cell" 1 G_checked_cell dfl_checked_cell) (F : FunD K "has" "Block.has" (defArgs st_Block_has) (defBody st_Block_has) (defScope st_Block_has) dvs kws (He.ma K (He.ga K "Block") "has") fd) :
    FnOk P w K mg base (L2M.CX false P w) 5 (He.ma K (He.ga K "Block") "has") fd ["self", "cell"] (spD (S0 K) 2 G_Block_has) :=
  fnD_ok (S := S0 K) F sc_Block_has fun n cdv A outer s H E hr =>
    have hnd := sc_Block_has.nd
    have tk : L2M.Takes false (cxOf (L2M.CX false P w) P w K mg base nm_Block_has "Block.has" (defScope st_Block_has) (He.ma K (He.ga K "Block") "has") cdv A outer s H E) (fun cls d _ H => E cls d H) := L2M.takes_of rfl rfl rfl rfl
    (pdss_cons (pds_exp (pd_c C_checked_cell_fn hr (by decide) 0 (by decide) tk rfl (pda_cons (pd_var (pv 1)) pda_nil)))
      (pdss_cons (pds_asg (pd_var (pv 1)) (pdg_tup rfl rfl (pdgs_cons (pdg_name hnd rfl (by first | exact Or.inl rfl | exact Or.inr rfl)) (pdgs_cons (pdg_name hnd rfl (by first | exact Or.inl rfl | exact Or.inr rfl)) pdgs_nil))))
      (pdss_cons (pds_if (PDW.pt (pdw_or (pdt_cmp po_lt (pd_var (pv 2)) (pd_fld rfl (T.n_top n) (pd_var (pv 0))) (nomark _)) (pdw_or1 (pdt_cmp po_lt (pd_var (pv 3)) (pd_fld rfl (T.n_left n) (pd_var (pv 0))) (nomark _)))))
      (pdss_one (pds_ret pd_bl))
      pdss_nil)
      (pdss_one (pds_ret (pd_and rfl (pd_or rfl (pd_cmp po_is (pd_fld rfl (T.n_bottom n) (pd_var (pv 0))) pd_non (nomark _)) (pd_one (pd_cmp po_le (pd_var (pv 2)) (pd_fld rfl (T.n_bottom n) (pd_var (pv 0))) (nomark _)))) (pd_one (pd_or rfl (pd_cmp po_is (pd_fld rfl (T.n_right n) (pd_var (pv 0))) pd_non (nomark _)) (pd_one (pd_cmp po_le (pd_var (pv 3)) (pd_fld rfl (T.n_right n) (pd_var (pv 0))) (nomark _)))))))))))
abbrev nm_Area_has : List Str := ["self", "cell", "block"]
theorem sc_Area_has : FnScope nm_Area_has ["self", "cell"] (defScope st_Area_has) := ⟨rfl, rfl, rfl, by decide +kernel, rfl, by decide +kernel, by decide +kernel⟩
theorem ok_Area_has {fd : FuncData} {dvs : List V} {kws : List (Str × V)} (T : Fx K mg) (C_checked_cell_fn : CalD false P w K mg base (S0 K) 4 "checked_cell" 1 G_checked_cell dfl_checked_cell) (C_Block_has_mt : MetD false P w K mg base (S0 K) 5 "Block" "has" 2 G_Block_has dfl_Block_has) (F : FunD K "has" "Area.has" (defArgs st_Area_has) (defBody st_Area_has) (defScope st_Area_has) dvs kws (He.ma K (He.ga K "Area") "has") fd) :
    FnOk P w K mg base (L2M.CX false P w) 6 (He.ma K (He.ga K "Area") "has") fd ["self", "cell"] (spD (S0 K) 2 G_Area_has) :=
  fnD_ok (S := S0 K) F sc_Area_has fun n cdv A outer s H E hr =>
    have hnd := sc_Area_has.nd
    have tk : L2M.Takes false (cxOf (L2M.CX false P w) P w K mg base nm_Area_has "Area.has" (defScope st_Area_has) (He.ma K (He.ga K "Area") "has") cdv A outer s H E) (fun cls d _ H => E cls d H) := L2M.takes_of rfl rfl rfl rfl
    (pdss_cons (pds_exp (pd_c C_checked_cell_fn hr (by decide) 0 (by decide) tk rfl (pda_cons (pd_var (pv 1)) pda_nil)))
      (pdss_one (pds_ret (pd_blt (pb_any rfl rfl) rfl T.f_any (by decide +kernel) (pda_cons (pd_lc (own := [("block", 2)]) rfl (by exact hnd) (pdi_any rfl (pd_fld rfl (T.n_form n) (pd_var (pv 0)))) (blkOk_by (own := [("block", 2)]) (N := ["self", "cell", "block"]) (sc := defScope st_Area_has) (by decide +kernel)) (by decide) (fun _ _ _ _ _ => (pdg_name hnd rfl (by first | exact Or.inl rfl | exact Or.inr rfl))) (fun _ _ _ _ _ => pdts_nil) (fun _ _ _ _ _ => (pd_m rfl C_Block_has_mt hr (by decide) 0 (by decide) takesNo (pd_var (pv 2)) (pda_cons (pd_var (pv 1)) pda_nil)))) pda_nil)))))
abbrev nm_law_has : List Str := ["_law_blocks", "_law_row", "_law_column", "_law_top", "_law_left", "_law_bottom", "_law_right"]
theorem sc_law_has : FnScope nm_law_has ["_law_blocks", "_law_row", "_law_column"] (defScope st_law_has) := ⟨rfl, rfl, rfl, by decide +kernel, rfl, by decide +kernel, by decide +kernel⟩
theorem ok_law_has {fd : FuncData} {dvs : List V} {kws : List (Str × V)} (T : Fx K mg)  (F : FunD K "_law_has" "_law_has" (defArgs st_law_has) (defBody st_law_has) (defScope st_law_has) dvs kws (He.ga K "_law_has") fd) :
    FnOk P w K mg base (L2M.CX false P w) 1 (He.ga K "_law_has") fd ["_law_blocks", "_law_row", "_law_column"] (spD (S0 K) 3 G_law_has_k12) :=
  fnD_ok (S := S0 K) F sc_law_has fun n cdv A outer s H E hr =>
    have hnd := sc_law_has.nd
    have tk : L2M.Takes false (cxOf (L2M.CX false P w) P w K mg base nm_law_has "_law_has" (defScope st_law_has) (He.ga K "_law_has") cdv A outer s H E) (fun cls d _ H => E cls d H) := L2M.takes_of rfl rfl rfl rfl
    (pdss_cons (pds_for (by exact PassesOwn.leaving) rfl (pdi_any rfl (pd_var (pv 0))) (pdg_tup rfl rfl (pdgs_cons (pdg_name hnd rfl (by first | exact Or.inl rfl | exact Or.inr rfl)) (pdgs_cons (pdg_name hnd rfl (by first | exact Or.inl rfl | exact Or.inr rfl)) (pdgs_cons (pdg_name hnd rfl (by first | exact Or.inl rfl | exact Or.inr rfl)) (pdgs_cons (pdg_name hnd rfl (by first | exact Or.inl rfl | exact Or.inr rfl)) pdgs_nil)))))
      (pdss_one (pds_if (PDW.pt (pdw_and (pdt_cmp po_le (pd_var (pv 3)) (pd_var (pv 1)) (nomark _)) (pdw_and (pdt_cmp po_le (pd_var (pv 4)) (pd_var (pv 2)) (nomark _)) (pdw_and1 (PDW.pt (pdw_or (pdt_cmp po_is (pd_var (pv 5)) pd_non (nomark _)) (pdw_or1 (pdt_cmp po_le (pd_var (pv 1)) (pd_var (pv 5)) (nomark _)))))))))
      (pdss_one (pds_if (PDW.pt (pdw_or (pdt_cmp po_is (pd_var (pv 6)) pd_non (nomark _)) (pdw_or1 (pdt_cmp po_le (pd_var (pv 2)) (pd_var (pv 6)) (nomark _)))))
      (pdss_one (pds_ret pd_bl))
      pdss_nil))
      pdss_nil)))
      (pdss_one (pds_ret pd_bl)))
abbrev nm_law_refused : List Str := ["_law_area", "_law_thing", "e", "_law_marks"]
theorem sc_law_refused : FnScope nm_law_refused ["_law_area", "_law_thing"] (defScope st_law_refused) := ⟨rfl, rfl, rfl, by decide +kernel, rfl, by decide +kernel, by decide +kernel⟩
theorem ok_law_refused {fd : FuncData} {dvs : List V} {kws : List (Str × V)} (T : Fx K mg) (C_Area_has_mt : MetD false P w K mg base (S0 K) 6 "Area" "has" 2 G_Area_has dfl_Area_has) (F : FunD K "_law_refused" "_law_refused" (defArgs st_law_refused) (defBody st_law_refused) (defScope st_law_refused) dvs kws (He.ga K "_law_refused") fd) :
    FnOk P w K mg base (L2M.CX false P w) 7 (He.ga K "_law_refused") fd ["_law_area", "_law_thing"] (spD (S0 K) 2 G_law_refused_k12) :=
  fnD_ok (S := S0 K) F sc_law_refused fun n cdv A outer s H E hr =>
    have hnd := sc_law_refused.nd
    have tk : L2M.Takes false (cxOf (L2M.CX false P w) P w K mg base nm_law_refused "_law_refused" (defScope st_law_refused) (He.ga K "_law_refused") cdv A outer s H E) (fun cls d _ H => E cls d H) := L2M.takes_of rfl rfl rfl rfl
    (pdss_cons (pds_tryH (xs := (["NoCell", "NoColumn", "NoBlock"] : List Str)) (i := 2) rfl rfl rfl rfl (by exact hnd) rfl rfl rfl T.g_CellError (T.xm_CellError n) tk (fun _ _ _ tk hpo => (pdss_one (pds_exp (pd_m rfl C_Area_has_mt hr (by decide) 0 (by decide) tk (pd_var (pv 0)) (pda_cons (pd_var (pv 1)) pda_nil)))))
      (fun a oe pn hot hp hpn hc => have hr := L2H.roomH_mark (h := some (.ref a)) hr; (pdss_cons (pds_set hnd rfl (by first | exact Or.inl rfl | exact Or.inr rfl) (pd_lst (pda_cons (pd_blt (pb_isX rfl hpn (T.xk_NoCell n (a, oe))) rfl T.f_isinstance (by decide +kernel) (pda_cons (pd_var (pv 2)) (pda_cons (pd_glo rfl T.g_NoCell) pda_nil))) (pda_cons (pd_blt (pb_isX rfl hpn (T.xk_NoArea n (a, oe))) rfl T.f_isinstance (by decide +kernel) (pda_cons (pd_var (pv 2)) (pda_cons (pd_glo rfl T.g_NoArea) pda_nil))) (pda_cons (pd_blt (pb_isX rfl hpn (T.xk_NoBlock n (a, oe))) rfl T.f_isinstance (by decide +kernel) (pda_cons (pd_var (pv 2)) (pda_cons (pd_glo rfl T.g_NoBlock) pda_nil))) (pda_cons (pd_blt (pb_isX rfl hpn (T.xk_NoNumber n (a, oe))) rfl T.f_isinstance (by decide +kernel) (pda_cons (pd_var (pv 2)) (pda_cons (pd_glo rfl T.g_NoNumber) pda_nil))) pda_nil))))))
      (pdss_one (pds_ret (pd_cmp (po_eq rfl hr.units) (pd_var (pv 3)) (pd_lst (pda_cons pd_bl (pda_cons pd_bl (pda_cons pd_bl (pda_cons pd_bl pda_nil))))) (nomark _)))))))
      (pdss_one (pds_ret pd_bl)))
abbrev nm_law : List Str := ["_law_script", "_law_source_here", "_law_blocks", "_law_area", "_law_asked", "_law_cell", "_law_drawn_here", "_law_block", "_law_row", "_law_column", "_law_told", "_law_odd", "_law_one"]
theorem sc_law : FnScope nm_law ["_law_script"] (defScope st_law) := ⟨rfl, rfl, rfl, by decide +kernel, rfl, by decide +kernel, by decide +kernel⟩
theorem ok_law {fd : FuncData} {dvs : List V} {kws : List (Str × V)} (T : Fx K mg) (C_law_source_nw : CalN false P w K mg base (S0 K) 1 "_law_source" 1 G_law_source dfl_law_source) (C_law_cell_at_fn : CalD false P w K mg base (S0 K) 1 "_law_cell_at" 2 G_law_cell_at dfl_law_cell_at) (C_law_drawn_fn : CalD false P w K mg base (S0 K) 4 "_law_drawn" 2 G_law_drawn dfl_law_drawn) (C_Area_init___mk : MakD false P w K mg base (S0 K) 7 "Area" 2 G_Area_init__ dfl_Area_init__) (C_law_made_fn : CalD false P w K mg base (S0 K) 6 "_law_made" 1 G_law_made_k12 dfl_law_made_k12) (C_law_next_fn : CalD false P w K mg base (S0 K) 2 "_law_next" 2 G_law_next dfl_law_next) (C_law_near_fn : CalD false P w K mg base (S0 K) 3 "_law_near" 2 G_law_near_k12 dfl_law_near_k12) (C_Area_has_mt : MetD false P w K mg base (S0 K) 6 "Area" "has" 2 G_Area_has dfl_Area_has) (C_law_has_fn : CalD false P w K mg base (S0 K) 1 "_law_has" 3 G_law_has_k12 dfl_law_has_k12) (C_Block_init___mk : MakD false P w K mg base (S0 K) 4 "Block" 5 G_Block_init__ dfl_Block_init__) (C_law_refused_fn : CalD false P w K mg base (S0 K) 7 "_law_refused" 2 G_law_refused_k12 dfl_law_refused_k12) (F : FunD K "law" "law" (defArgs st_law) (defBody st_law) (defScope st_law) dvs kws (He.ga K "law") fd) :
    FnOk P w K mg base (L2M.CX false P w) 9 (He.ga K "law") fd ["_law_script"] (spD (S0 K) 1 G_law_k12) :=
  fnD_ok (S := S0 K) F sc_law fun n cdv A outer s H E hr =>
    have hnd := sc_law.nd
    have tk : L2M.Takes false (cxOf (L2M.CX false P w) P w K mg base nm_law "law" (defScope st_law) (He.ga K "law") cdv A outer s H E) (fun cls d _ H => E cls d H) := L2M.takes_of rfl rfl rfl rfl
    (pdss_cons (pds_newL hnd rfl (by first | exact Or.inl rfl | exact Or.inr rfl) (pdl_c C_law_source_nw hr (by decide) 0 (by decide) tk rfl (pda_cons (pd_c C_law_cell_at_fn hr (by decide) 0 (by decide) tk rfl (pda_cons (pd_var (pv 0)) (pda_cons pd_int pda_nil))) pda_nil)))
      (pdss_cons (pds_set hnd rfl (by first | exact Or.inl rfl | exact Or.inr rfl) (pd_c C_law_drawn_fn hr (by decide) 0 (by decide) tk rfl (pda_cons (pd_var (pv 1)) (pda_cons pd_int pda_nil))))
      (pdss_cons (pds_set hnd rfl (by first | exact Or.inl rfl | exact Or.inr rfl) (pd_mk rfl C_Area_init___mk hr (by decide) 1 (by decide) tk rfl (pda_cons (pd_c C_law_made_fn hr (by decide) 0 (by decide) tk rfl (pda_cons (pd_var (pv 2)) pda_nil)) pda_nil)))
      (pdss_cons (pds_cel hnd rfl (by first | exact Or.inl rfl | exact Or.inr rfl) pda_nil)
      (pdss_cons (pds_for (by exact PassesOwn.leaving) rfl (pdi_any rfl (pd_op po_add (pd_slc rfl (pd_var (pv 0)) (pdp_some pd_int) (pdp_some pd_int)) (pd_lst (pda_cons pd_int (pda_cons pd_int pda_nil))))) (pdg_name hnd rfl (by first | exact Or.inl rfl | exact Or.inr rfl))
      (pdss_cons (pds_newL hnd rfl (by first | exact Or.inl rfl | exact Or.inr rfl) (pdl_c C_law_source_nw hr (by decide) 0 (by decide) tk rfl (pda_cons (pd_var (pv 5)) pda_nil)))
      (pdss_cons (pds_set hnd rfl (by first | exact Or.inl rfl | exact Or.inr rfl) (pd_ix rfl (pd_op po_add (pd_var (pv 2)) (pd_lst (pda_cons (pd_tup (pda_cons pd_int (pda_cons pd_int (pda_cons pd_int (pda_cons pd_int pda_nil))))) pda_nil))) (pd_c C_law_next_fn hr (by decide) 0 (by decide) tk rfl (pda_cons (pd_var (pv 6)) (pda_cons (pd_op po_add (pd_blt (pb_len rfl) rfl T.f_len (by decide +kernel) (pda_cons (pd_var (pv 2)) pda_nil)) pd_int) pda_nil))) (fun _ _ => rfl)))
      (pdss_cons (pds_set hnd rfl (by first | exact Or.inl rfl | exact Or.inr rfl) (pd_c C_law_near_fn hr (by decide) 0 (by decide) tk rfl (pda_cons (pd_var (pv 6)) (pda_cons (pd_lst (pda_cons (pd_ix rfl (pd_var (pv 7)) pd_int (fun _ _ => rfl)) (pda_cons (pd_ix rfl (pd_var (pv 7)) pd_int (fun _ _ => rfl)) pda_nil))) pda_nil))))
      (pdss_cons (pds_set hnd rfl (by first | exact Or.inl rfl | exact Or.inr rfl) (pd_c C_law_near_fn hr (by decide) 0 (by decide) tk rfl (pda_cons (pd_var (pv 6)) (pda_cons (pd_lst (pda_cons (pd_ix rfl (pd_var (pv 7)) pd_int (fun _ _ => rfl)) (pda_cons (pd_ix rfl (pd_var (pv 7)) pd_int (fun _ _ => rfl)) pda_nil))) pda_nil))))
      (pdss_cons (pds_app rfl (pd_var (pv 4)) (pd_tup (pda_cons (pd_var (pv 8)) (pda_cons (pd_var (pv 9)) pda_nil))))
      (pdss_cons (pds_set hnd rfl (by first | exact Or.inl rfl | exact Or.inr rfl) (pd_m rfl C_Area_has_mt hr (by decide) 0 (by decide) tk (pd_var (pv 3)) (pda_cons (pd_tup (pda_cons (pd_var (pv 8)) (pda_cons (pd_var (pv 9)) pda_nil))) pda_nil)))
      (pdss_cons (pds_if (PDW.pt (pdw_or (pdt_not (pdt_tru rfl (pd_blt (pb_isi rfl (T.ins n) (T.k_bool n)) rfl T.f_isinstance (by decide +kernel) (pda_cons (pd_var (pv 10)) (pda_cons (pd_bvl rfl T.f_bool (by decide +kernel)) pda_nil))))) (pdw_or1 (pdt_cmp (po_ne rfl hr.units) (pd_var (pv 10)) (pd_c C_law_has_fn hr (by decide) 0 (by decide) tk rfl (pda_cons (pd_var (pv 2)) (pda_cons (pd_var (pv 8)) (pda_cons (pd_var (pv 9)) pda_nil)))) (nomark _)))))
      (pdss_one (pds_ret pd_bl))
      pdss_nil)
      (pdss_cons (pds_set hnd rfl (by first | exact Or.inl rfl | exact Or.inr rfl) (pd_lst (pda_cons pd_non (pda_cons (pd_var (pv 8)) (pda_cons (pd_lst (pda_cons (pd_var (pv 8)) (pda_cons (pd_var (pv 9)) pda_nil))) (pda_cons (pd_tup (pda_cons (pd_var (pv 8)) pda_nil)) (pda_cons (pd_tup (pda_cons (pd_var (pv 8)) (pda_cons (pd_var (pv 9)) (pda_cons pd_int pda_nil)))) (pda_cons (pd_tup (pda_cons (pd_var (pv 8)) (pda_cons pd_non pda_nil))) (pda_cons (pd_tup (pda_cons pd_bl (pda_cons (pd_var (pv 9)) pda_nil))) (pda_cons (pd_tup (pda_cons (pd_var (pv 8)) (pda_cons pd_bl pda_nil))) (pda_cons (pd_str (by decide +kernel)) pda_nil)))))))))))
      (pdss_cons (pds_set hnd rfl (by first | exact Or.inl rfl | exact Or.inr rfl) (pd_op po_add (pd_var (pv 11)) (pd_lst (pda_cons (pd_tup (pda_cons pd_int (pda_cons (pd_var (pv 9)) pda_nil))) (pda_cons (pd_tup (pda_cons (pd_var (pv 8)) (pda_cons pd_int pda_nil))) (pda_cons (pd_tup (pda_cons (pd_op po_sub pd_int (pd_var (pv 8))) (pda_cons (pd_var (pv 9)) pda_nil))) (pda_cons (pd_tup (pda_cons (pd_bty (pb_str2) rfl T.f_str (by decide +kernel) (pda_cons (pd_var (pv 8)) pda_nil)) (pda_cons (pd_var (pv 9)) pda_nil))) (pda_cons (pd_tup (pda_cons (pd_tup (pda_cons (pd_var (pv 8)) (pda_cons (pd_var (pv 9)) pda_nil))) pda_nil)) (pda_cons (pd_mk0 rfl C_Block_init___mk hr (by decide) 0 (by decide) tk rfl) (pda_cons pd_dct0 pda_nil))))))))))
      (pdss_one (pds_if (pdt_not (pdt_tru rfl (pd_c C_law_refused_fn hr (by decide) 0 (by decide) tk rfl (pda_cons (pd_var (pv 3)) (pda_cons (pd_ix rfl (pd_var (pv 11)) (pd_c C_law_next_fn hr (by decide) 0 (by decide) tk rfl (pda_cons (pd_var (pv 6)) (pda_cons (pd_blt (pb_len rfl) rfl T.f_len (by decide +kernel) (pda_cons (pd_var (pv 11)) pda_nil)) pda_nil))) (fun _ _ => rfl)) pda_nil)))))
      (pdss_one (pds_ret pd_bl))
      pdss_nil))))))))))))
      (pdss_one (pds_ret (pd_cmp (po_eq rfl hr.units) (pd_lc (own := [("_law_one", 12)]) rfl (by exact hnd) (pdi_any rfl (pd_var (pv 4))) (blkOk_by (own := [("_law_one", 12)]) (N := ["_law_script", "_law_source_here", "_law_blocks", "_law_area", "_law_asked", "_law_cell", "_law_drawn_here", "_law_block", "_law_row", "_law_column", "_law_told", "_law_odd", "_law_one"]) (sc := defScope st_law) (by decide +kernel)) (by decide) (fun _ _ _ _ _ => (pdg_name hnd rfl (by first | exact Or.inl rfl | exact Or.inr rfl))) (fun _ _ _ _ _ => pdts_nil) (fun _ _ _ _ _ => (pd_m rfl C_Area_has_mt hr (by decide) 0 (by decide) takesNo (pd_var (pv 3)) (pda_cons (pd_var (pv 12)) pda_nil)))) (pd_lc (own := [("_law_row", 8), ("_law_column", 9)]) rfl (by exact hnd) (pdi_any rfl (pd_var (pv 4))) (blkOk_by (own := [("_law_row", 8), ("_law_column", 9)]) (N := ["_law_script", "_law_source_here", "_law_blocks", "_law_area", "_law_asked", "_law_cell", "_law_drawn_here", "_law_block", "_law_row", "_law_column", "_law_told", "_law_odd", "_law_one"]) (sc := defScope st_law) (by decide +kernel)) (by decide) (fun _ _ _ _ _ => (pdg_tup rfl rfl (pdgs_cons (pdg_name hnd rfl (by first | exact Or.inl rfl | exact Or.inr rfl)) (pdgs_cons (pdg_name hnd rfl (by first | exact Or.inl rfl | exact Or.inr rfl)) pdgs_nil)))) (fun _ _ _ _ _ => pdts_nil) (fun _ _ _ _ _ => (pd_c C_law_has_fn hr (by decide) 0 (by decide) takesNo rfl (pda_cons (pd_var (pv 2)) (pda_cons (pd_var (pv 8)) (pda_cons (pd_var (pv 9)) pda_nil)))))) (nomark _)))))))))
end
end K12
set_option maxHeartbeats 0
namespace K12
open PySem PySem.Spec PyProof.Rows L2 DL PG
section
variable {P : Program} {w : World} {K : PySem.W.Frag} {mg : Str → Option Value} {base h : Heap}
theorem fx (X : K.In h) (G : h.Ns mainGlobals mg) (ck : chk K = true) (c : He.SaysD fas fns K) : Fx K mg := by
  obtain ⟨k0, ck⟩ := Bool.and_eq_true_iff.mp ck
  obtain ⟨k1, ck⟩ := Bool.and_eq_true_iff.mp ck
  obtain ⟨k2, ck⟩ := Bool.and_eq_true_iff.mp ck
  obtain ⟨k3, ck⟩ := Bool.and_eq_true_iff.mp ck
  obtain ⟨k4, ck⟩ := Bool.and_eq_true_iff.mp ck
  obtain ⟨k5, ck⟩ := Bool.and_eq_true_iff.mp ck
  obtain ⟨k6, ck⟩ := Bool.and_eq_true_iff.mp ck
  obtain ⟨k7, ck⟩ := Bool.and_eq_true_iff.mp ck
  obtain ⟨k8, ck⟩ := Bool.and_eq_true_iff.mp ck
  obtain ⟨k9, ck⟩ := Bool.and_eq_true_iff.mp ck
  obtain ⟨k10, ck⟩ := Bool.and_eq_true_iff.mp ck
  have k11 := ck
  exact {
    g_Area := He.glo_ok X G (c.fact 0 (f := .glo "Area") rfl)
    g_Block := He.glo_ok X G (c.fact 1 (f := .glo "Block") rfl)
    g_CellError := He.glo_ok X G (c.fact 2 (f := .glo "CellError") rfl)
    g_NoArea := He.glo_ok X G (c.fact 3 (f := .glo "NoArea") rfl)
    g_NoBlock := He.glo_ok X G (c.fact 4 (f := .glo "NoBlock") rfl)
    g_NoCell := He.glo_ok X G (c.fact 5 (f := .glo "NoCell") rfl)
    g_NoNumber := He.glo_ok X G (c.fact 6 (f := .glo "NoNumber") rfl)
    g_either := He.glo_ok X G (c.fact 7 (f := .glo "either") rfl)
    g_one_alone := He.glo_ok X G (c.fact 8 (f := .glo "one_alone") rfl)
    f_all := He.free_ok X G (c.fact 9 (f := .free "all") rfl)
    f_any := He.free_ok X G (c.fact 10 (f := .free "any") rfl)
    f_bool := He.free_ok X G (c.fact 11 (f := .free "bool") rfl)
    f_enumerate := He.free_ok X G (c.fact 12 (f := .free "enumerate") rfl)
    f_int := He.free_ok X G (c.fact 13 (f := .free "int") rfl)
    f_isinstance := He.free_ok X G (c.fact 14 (f := .free "isinstance") rfl)
    f_len := He.free_ok X G (c.fact 15 (f := .free "len") rfl)
    f_list := He.free_ok X G (c.fact 16 (f := .free "list") rfl)
    f_max := He.free_ok X G (c.fact 17 (f := .free "max") rfl)
    f_range := He.free_ok X G (c.fact 18 (f := .free "range") rfl)
    f_set := He.free_ok X G (c.fact 19 (f := .free "set") rfl)
    f_sorted := He.free_ok X G (c.fact 20 (f := .free "sorted") rfl)
    f_str := He.free_ok X G (c.fact 21 (f := .free "str") rfl)
    f_tuple := He.free_ok X G (c.fact 22 (f := .free "tuple") rfl)
    c_LETTERS := He.str_ok X G (c.fact 23 (f := .str "LETTERS" "ABCDEFGHIJKLMNOPQRSTUVWXYZ") rfl)
    x_NoBlock := fun n => exF_of (c.fact 24 (f := .exc "NoBlock") rfl)
    x_NoCell := fun n => exF_of (c.fact 25 (f := .exc "NoCell") rfl)
    n_bottom := fun n => (all_cons ⟨He.cls_ok (c.fact 36 (f := .cls "Block") rfl), He.noat_ok (c.fact 26 (f := .noat "Block" "bottom") rfl)⟩ (all_cons ⟨He.cls_ok (c.fact 37 (f := .cls "Area") rfl), He.noat_ok (c.fact 27 (f := .noat "Area" "bottom") rfl)⟩ all_nil))
    n_form := fun n => (all_cons ⟨He.cls_ok (c.fact 36 (f := .cls "Block") rfl), He.noat_ok (c.fact 28 (f := .noat "Block" "form") rfl)⟩ (all_cons ⟨He.cls_ok (c.fact 37 (f := .cls "Area") rfl), He.noat_ok (c.fact 29 (f := .noat "Area" "form") rfl)⟩ all_nil))
    n_left := fun n => (all_cons ⟨He.cls_ok (c.fact 36 (f := .cls "Block") rfl), He.noat_ok (c.fact 30 (f := .noat "Block" "left") rfl)⟩ (all_cons ⟨He.cls_ok (c.fact 37 (f := .cls "Area") rfl), He.noat_ok (c.fact 31 (f := .noat "Area" "left") rfl)⟩ all_nil))
    n_right := fun n => (all_cons ⟨He.cls_ok (c.fact 36 (f := .cls "Block") rfl), He.noat_ok (c.fact 32 (f := .noat "Block" "right") rfl)⟩ (all_cons ⟨He.cls_ok (c.fact 37 (f := .cls "Area") rfl), He.noat_ok (c.fact 33 (f := .noat "Area" "right") rfl)⟩ all_nil))
    n_top := fun n => (all_cons ⟨He.cls_ok (c.fact 36 (f := .cls "Block") rfl), He.noat_ok (c.fact 34 (f := .noat "Block" "top") rfl)⟩ (all_cons ⟨He.cls_ok (c.fact 37 (f := .cls "Area") rfl), He.noat_ok (c.fact 35 (f := .noat "Area" "top") rfl)⟩ all_nil))
    ins := fun n => (all_cons (insB_ok (He.cls_ok (c.fact 36 (f := .cls "Block") rfl)) k0) (all_cons (insB_ok (He.cls_ok (c.fact 37 (f := .cls "Area") rfl)) k1) all_nil))
    k_Block := fun n => kitB_ok (S := S0 K) k2
    k_bool := fun n => kitB_ok (S := S0 K) k3
    k_int := fun n => kitB_ok (S := S0 K) k4
    k_list := fun n => kitB_ok (S := S0 K) k5
    k_tuple := fun n => kitB_ok (S := S0 K) k6
    xk_NoArea := fun n => (fun h => excsB_at (S := S0 K) h n) k7
    xk_NoBlock := fun n => (fun h => excsB_at (S := S0 K) h n) k8
    xk_NoCell := fun n => (fun h => excsB_at (S := S0 K) h n) k9
    xk_NoNumber := fun n => (fun h => excsB_at (S := S0 K) h n) k10
    xm_CellError := fun n => exmB_ok (S := S0 K) k11 }
theorem facts (X : K.In h) (G : h.Ns mainGlobals mg) {f : Addr} (hfa : mg ("law" : Str) = some (.ref f)) (ck : chk K = true) (c : He.SaysD fas fns K) :
    ∃ fd : FuncData, (∀ (s : Shared) (v : Value), BindsTo s fd ⟨[v], []⟩ [("_law_script", v)]) ∧ ∀ base : Heap, K.In base → base.Ns mainGlobals mg → FnOk P w K mg base (CXA P) 9 f fd ["_law_script"] (spD (S0 K) 1 G_law_k12) := by
  have T := fx X G ck c
  obtain ⟨fd_law_source, F_law_source⟩ := c.def_ 0 (d := d_law_source) rfl
  obtain ⟨fd_law_cell_at, F_law_cell_at⟩ := c.def_ 1 (d := d_law_cell_at) rfl
  obtain ⟨fd_law_mixed, F_law_mixed⟩ := c.def_ 2 (d := d_law_mixed) rfl
  obtain ⟨fd_law_next, F_law_next⟩ := c.def_ 3 (d := d_law_next) rfl
  obtain ⟨fd_law_ends, F_law_ends⟩ := c.def_ 4 (d := d_law_ends) rfl
  obtain ⟨fd_law_drawn, F_law_drawn⟩ := c.def_ 5 (d := d_law_drawn) rfl
  obtain ⟨fd_checked_blocks, F_checked_blocks⟩ := c.def_ 6 (d := d_checked_blocks) rfl
  obtain ⟨fd_is_whole, F_is_whole⟩ := c.def_ 7 (d := d_is_whole) rfl
  obtain ⟨fd_is_count, F_is_count⟩ := c.def_ 8 (d := d_is_count) rfl
  obtain ⟨fd_is_end, F_is_end⟩ := c.def_ 9 (d := d_is_end) rfl
  obtain ⟨fd_Block_init__, F_Block_init__⟩ := c.def_ 10 (d := d_Block_init__) rfl
  obtain ⟨fd_first_cell, F_first_cell⟩ := c.def_ 11 (d := d_first_cell) rfl
  obtain ⟨fd_form_of, F_form_of⟩ := c.def_ 12 (d := d_form_of) rfl
  obtain ⟨fd_stretches, F_stretches⟩ := c.def_ 13 (d := d_stretches) rfl
  obtain ⟨fd_cuts_of, F_cuts_of⟩ := c.def_ 14 (d := d_cuts_of) rfl
  obtain ⟨fd_is_at, F_is_at⟩ := c.def_ 15 (d := d_is_at) rfl
  obtain ⟨fd_one_alone, F_one_alone⟩ := c.def_ 16 (d := d_one_alone) rfl
  obtain ⟨fd_either, F_either⟩ := c.def_ 17 (d := d_either) rfl
  obtain ⟨fd_with_run, F_with_run⟩ := c.def_ 18 (d := d_with_run) rfl
  obtain ⟨fd_runs_by, F_runs_by⟩ := c.def_ 19 (d := d_runs_by) rfl
  obtain ⟨fd_columns_at, F_columns_at⟩ := c.def_ 20 (d := d_columns_at) rfl
  obtain ⟨fd_bands_by, F_bands_by⟩ := c.def_ 21 (d := d_bands_by) rfl
  obtain ⟨fd_Area_init__, F_Area_init__⟩ := c.def_ 22 (d := d_Area_init__) rfl
  obtain ⟨fd_law_made, F_law_made⟩ := c.def_ 23 (d := d_law_made) rfl
  obtain ⟨fd_law_near, F_law_near⟩ := c.def_ 24 (d := d_law_near) rfl
  obtain ⟨fd_is_cell, F_is_cell⟩ := c.def_ 25 (d := d_is_cell) rfl
  obtain ⟨fd_checked_cell, F_checked_cell⟩ := c.def_ 26 (d := d_checked_cell) rfl
  obtain ⟨fd_Block_has, F_Block_has⟩ := c.def_ 27 (d := d_Block_has) rfl
  obtain ⟨fd_Area_has, F_Area_has⟩ := c.def_ 28 (d := d_Area_has) rfl
  obtain ⟨fd_law_has, F_law_has⟩ := c.def_ 29 (d := d_law_has) rfl
  obtain ⟨fd_law_refused, F_law_refused⟩ := c.def_ 30 (d := d_law_refused) rfl
  obtain ⟨fd_law, F_law⟩ := c.def_ 31 (d := d_law) rfl
  have e := hfa.symm.trans (He.glo_ok X G (c.fact 63 (f := .glo "law") rfl))
  cases e
  refine ⟨fd_law, fun s v => FunD.bindsA (ps := ["_law_script"]) F_law (fun _ _ _ _ _ _ us hl => match us, hl with | [_], _ => rfl) s [v] rfl, fun base _ _ => ?_⟩
  have C_law_source_nw : CalN false P w K mg base (S0 K) 1 "_law_source" 1 G_law_source dfl_law_source := ⟨_, _, _, He.glo_ok X G (c.fact 38 (f := .glo "_law_source") rfl), F_law_source.kp, fun j hj => by
    have e : j = 0 := Nat.le_zero.mp hj
    subst e
    exact dfl_none (F_law_source.bindsN fun _ _ _ _ _ _ us hl => match us, hl with | [_], _ => rfl), ok_law_source T  F_law_source⟩
  have C_law_cell_at_fn : CalD false P w K mg base (S0 K) 1 "_law_cell_at" 2 G_law_cell_at dfl_law_cell_at := ⟨_, _, _, He.glo_ok X G (c.fact 39 (f := .glo "_law_cell_at") rfl), F_law_cell_at.kp, fun j hj => by
    have e : j = 0 := Nat.le_zero.mp hj
    subst e
    exact dfl_none (F_law_cell_at.bindsN fun _ _ _ _ _ _ us hl => match us, hl with | [_, _], _ => rfl), ok_law_cell_at T  F_law_cell_at⟩
  have C_law_mixed_fn : CalD false P w K mg base (S0 K) 1 "_law_mixed" 2 G_law_mixed dfl_law_mixed := ⟨_, _, _, He.glo_ok X G (c.fact 40 (f := .glo "_law_mixed") rfl), F_law_mixed.kp, fun j hj => by
    have e : j = 0 := Nat.le_zero.mp hj
    subst e
    exact dfl_none (F_law_mixed.bindsN fun _ _ _ _ _ _ us hl => match us, hl with | [_, _], _ => rfl), ok_law_mixed T  F_law_mixed⟩
  have C_law_next_fn : CalD false P w K mg base (S0 K) 2 "_law_next" 2 G_law_next dfl_law_next := ⟨_, _, _, He.glo_ok X G (c.fact 41 (f := .glo "_law_next") rfl), F_law_next.kp, fun j hj => by
    have e : j = 0 := Nat.le_zero.mp hj
    subst e
    exact dfl_none (F_law_next.bindsN fun _ _ _ _ _ _ us hl => match us, hl with | [_, _], _ => rfl), ok_law_next T C_law_mixed_fn F_law_next⟩
  have C_law_ends_fn : CalD false P w K mg base (S0 K) 3 "_law_ends" 2 G_law_ends_k12 dfl_law_ends_k12 := ⟨_, _, _, He.glo_ok X G (c.fact 42 (f := .glo "_law_ends") rfl), F_law_ends.kp, fun j hj => by
    have e : j = 0 := Nat.le_zero.mp hj
    subst e
    exact dfl_none (F_law_ends.bindsN fun _ _ _ _ _ _ us hl => match us, hl with | [_, _], _ => rfl), ok_law_ends T C_law_next_fn F_law_ends⟩
  have C_law_drawn_fn : CalD false P w K mg base (S0 K) 4 "_law_drawn" 2 G_law_drawn dfl_law_drawn := ⟨_, _, _, He.glo_ok X G (c.fact 43 (f := .glo "_law_drawn") rfl), F_law_drawn.kp, fun j hj => by
    have e : j = 0 := Nat.le_zero.mp hj
    subst e
    exact dfl_none (F_law_drawn.bindsN fun _ _ _ _ _ _ us hl => match us, hl with | [_, _], _ => rfl), ok_law_drawn T C_law_next_fn C_law_ends_fn F_law_drawn⟩
  have C_checked_blocks_fn : CalD false P w K mg base (S0 K) 1 "checked_blocks" 1 G_checked_blocks dfl_checked_blocks := ⟨_, _, _, He.glo_ok X G (c.fact 44 (f := .glo "checked_blocks") rfl), F_checked_blocks.kp, fun j hj => by
    have e : j = 0 := Nat.le_zero.mp hj
    subst e
    exact dfl_none (F_checked_blocks.bindsN fun _ _ _ _ _ _ us hl => match us, hl with | [_], _ => rfl), ok_checked_blocks T  F_checked_blocks⟩
  have C_is_whole_fn : CalD false P w K mg base (S0 K) 1 "is_whole" 1 G_is_whole dfl_is_whole := ⟨_, _, _, He.glo_ok X G (c.fact 45 (f := .glo "is_whole") rfl), F_is_whole.kp, fun j hj => by
    have e : j = 0 := Nat.le_zero.mp hj
    subst e
    exact dfl_none (F_is_whole.bindsN fun _ _ _ _ _ _ us hl => match us, hl with | [_], _ => rfl), ok_is_whole T  F_is_whole⟩
  have C_is_count_fn : CalD false P w K mg base (S0 K) 2 "is_count" 1 G_is_count dfl_is_count := ⟨_, _, _, He.glo_ok X G (c.fact 46 (f := .glo "is_count") rfl), F_is_count.kp, fun j hj => by
    have e : j = 0 := Nat.le_zero.mp hj
    subst e
    exact dfl_none (F_is_count.bindsN fun _ _ _ _ _ _ us hl => match us, hl with | [_], _ => rfl), ok_is_count T C_is_whole_fn F_is_count⟩
  have C_is_end_fn : CalD false P w K mg base (S0 K) 3 "is_end" 2 G_is_end dfl_is_end := ⟨_, _, _, He.glo_ok X G (c.fact 47 (f := .glo "is_end") rfl), F_is_end.kp, fun j hj => by
    have e : j = 0 := Nat.le_zero.mp hj
    subst e
    exact dfl_none (F_is_end.bindsN fun _ _ _ _ _ _ us hl => match us, hl with | [_, _], _ => rfl), ok_is_end T C_is_count_fn F_is_end⟩
  have C_Block_init___mk : MakD false P w K mg base (S0 K) 4 "Block" 5 G_Block_init__ dfl_Block_init__ := ⟨_, _, _, He.glo_ok X G (c.fact 1 (f := .glo "Block") rfl), mkF_of (show ("Block" : Str) ∈ (["Block", "Area"] : List Str) by decide) (He.mkr_ok (c.fact 64 (f := .mkr "Block") rfl)), fun j hj => by
    have hj : j ≤ 4 := hj
    match j, hj with
    | 0, _ =>
      obtain ⟨ds, h1, h2⟩ := F_Block_init__.binds1 (ps := ["self", "top", "left", "bottom", "right"]) 1 0 (by intro z; cases z) rfl (fun _ _ _ _ _ _ _ us its hl hl2 => match us, hl, its, hl2 with | [_], _, [_, _, _, _], _ => ⟨_, rfl, rfl⟩)
      exact dfl_of (dd := dfl_Block_init__) (by decide +kernel) h1 h2
    | 1, _ =>
      obtain ⟨ds, h1, h2⟩ := F_Block_init__.binds1 (ps := ["self", "top", "left", "bottom", "right"]) 2 1 (by intro z; cases z) rfl (fun _ _ _ _ _ _ _ us its hl hl2 => match us, hl, its, hl2 with | [_, _], _, [_, _, _, _], _ => ⟨_, rfl, rfl⟩)
      exact dfl_of (dd := dfl_Block_init__) (by decide +kernel) h1 h2
    | 2, _ =>
      obtain ⟨ds, h1, h2⟩ := F_Block_init__.binds1 (ps := ["self", "top", "left", "bottom", "right"]) 3 2 (by intro z; cases z) rfl (fun _ _ _ _ _ _ _ us its hl hl2 => match us, hl, its, hl2 with | [_, _, _], _, [_, _, _, _], _ => ⟨_, rfl, rfl⟩)
      exact dfl_of (dd := dfl_Block_init__) (by decide +kernel) h1 h2
    | 3, _ =>
      obtain ⟨ds, h1, h2⟩ := F_Block_init__.binds1 (ps := ["self", "top", "left", "bottom", "right"]) 4 3 (by intro z; cases z) rfl (fun _ _ _ _ _ _ _ us its hl hl2 => match us, hl, its, hl2 with | [_, _, _, _], _, [_, _, _, _], _ => ⟨_, rfl, rfl⟩)
      exact dfl_of (dd := dfl_Block_init__) (by decide +kernel) h1 h2
    | 4, _ =>
      obtain ⟨ds, h1, h2⟩ := F_Block_init__.binds1 (ps := ["self", "top", "left", "bottom", "right"]) 5 4 (by intro z; cases z) rfl (fun _ _ _ _ _ _ _ us its hl hl2 => match us, hl, its, hl2 with | [_, _, _, _, _], _, [_, _, _, _], _ => ⟨_, rfl, rfl⟩)
      exact dfl_of (dd := dfl_Block_init__) (by decide +kernel) h1 h2
, ok_Block_init__ T C_is_count_fn C_is_end_fn F_Block_init__⟩
  have C_first_cell_fn : CalD false P w K mg base (S0 K) 1 "first_cell" 1 G_first_cell dfl_first_cell := ⟨_, _, _, He.glo_ok X G (c.fact 48 (f := .glo "first_cell") rfl), F_first_cell.kp, fun j hj => by
    have e : j = 0 := Nat.le_zero.mp hj
    subst e
    exact dfl_none (F_first_cell.bindsN fun _ _ _ _ _ _ us hl => match us, hl with | [_], _ => rfl), ok_first_cell T  F_first_cell⟩
  have C_form_of_fn : CalD false P w K mg base (S0 K) 6 "form_of" 1 G_form_of dfl_form_of := ⟨_, _, _, He.glo_ok X G (c.fact 49 (f := .glo "form_of") rfl), F_form_of.kp, fun j hj => by
    have e : j = 0 := Nat.le_zero.mp hj
    subst e
    exact dfl_none (F_form_of.bindsN fun _ _ _ _ _ _ us hl => match us, hl with | [_], _ => rfl), ok_form_of T C_Block_init___mk C_first_cell_fn F_form_of⟩
  have C_stretches_fn : CalD false P w K mg base (S0 K) 1 "stretches" 1 G_stretches dfl_stretches := ⟨_, _, _, He.glo_ok X G (c.fact 50 (f := .glo "stretches") rfl), F_stretches.kp, fun j hj => by
    have e : j = 0 := Nat.le_zero.mp hj
    subst e
    exact dfl_none (F_stretches.bindsN fun _ _ _ _ _ _ us hl => match us, hl with | [_], _ => rfl), ok_stretches T  F_stretches⟩
  have C_cuts_of_fn : CalD false P w K mg base (S0 K) 1 "cuts_of" 1 G_cuts_of dfl_cuts_of := ⟨_, _, _, He.glo_ok X G (c.fact 51 (f := .glo "cuts_of") rfl), F_cuts_of.kp, fun j hj => by
    have e : j = 0 := Nat.le_zero.mp hj
    subst e
    exact dfl_none (F_cuts_of.bindsN fun _ _ _ _ _ _ us hl => match us, hl with | [_], _ => rfl), ok_cuts_of T  F_cuts_of⟩
  have C_is_at_fn : CalD false P w K mg base (S0 K) 1 "is_at" 3 G_is_at dfl_is_at := ⟨_, _, _, He.glo_ok X G (c.fact 52 (f := .glo "is_at") rfl), F_is_at.kp, fun j hj => by
    have e : j = 0 := Nat.le_zero.mp hj
    subst e
    exact dfl_none (F_is_at.bindsN fun _ _ _ _ _ _ us hl => match us, hl with | [_, _, _], _ => rfl), ok_is_at T  F_is_at⟩
  have C_one_alone_fn : CalD false P w K mg base (S0 K) 1 "one_alone" 2 G_one_alone dfl_one_alone := ⟨_, _, _, He.glo_ok X G (c.fact 8 (f := .glo "one_alone") rfl), F_one_alone.kp, fun j hj => by
    have e : j = 0 := Nat.le_zero.mp hj
    subst e
    exact dfl_none (F_one_alone.bindsN fun _ _ _ _ _ _ us hl => match us, hl with | [_, _], _ => rfl), ok_one_alone T  F_one_alone⟩
  have C_either_fn : CalD false P w K mg base (S0 K) 1 "either" 2 G_either dfl_either := ⟨_, _, _, He.glo_ok X G (c.fact 7 (f := .glo "either") rfl), F_either.kp, fun j hj => by
    have e : j = 0 := Nat.le_zero.mp hj
    subst e
    exact dfl_none (F_either.bindsN fun _ _ _ _ _ _ us hl => match us, hl with | [_, _], _ => rfl), ok_either T  F_either⟩
  have C_with_run_fn : CalD false P w K mg base (S0 K) 1 "with_run" 3 G_with_run dfl_with_run := ⟨_, _, _, He.glo_ok X G (c.fact 53 (f := .glo "with_run") rfl), F_with_run.kp, fun j hj => by
    have e : j = 0 := Nat.le_zero.mp hj
    subst e
    exact dfl_none (F_with_run.bindsN fun _ _ _ _ _ _ us hl => match us, hl with | [_, _, _], _ => rfl), ok_with_run T  F_with_run⟩
  have C_runs_by_fn : CalD false P w K mg base (S0 K) 2 "runs_by" 3 G_runs_by dfl_runs_by := ⟨_, _, _, He.glo_ok X G (c.fact 54 (f := .glo "runs_by") rfl), F_runs_by.kp, fun j hj => by
    have e : j = 0 := Nat.le_zero.mp hj
    subst e
    exact dfl_none (F_runs_by.bindsN fun _ _ _ _ _ _ us hl => match us, hl with | [_, _, _], _ => rfl), ok_runs_by T C_stretches_fn C_cuts_of_fn C_is_at_fn C_one_alone_fn C_either_fn C_with_run_fn F_runs_by⟩
  have C_columns_at_fn : CalD false P w K mg base (S0 K) 2 "columns_at" 2 G_columns_at dfl_columns_at := ⟨_, _, _, He.glo_ok X G (c.fact 55 (f := .glo "columns_at") rfl), F_columns_at.kp, fun j hj => by
    have e : j = 0 := Nat.le_zero.mp hj
    subst e
    exact dfl_none (F_columns_at.bindsN fun _ _ _ _ _ _ us hl => match us, hl with | [_, _], _ => rfl), ok_columns_at T C_is_at_fn F_columns_at⟩
  have C_bands_by_fn : CalD false P w K mg base (S0 K) 3 "bands_by" 3 G_bands_by dfl_bands_by := ⟨_, _, _, He.glo_ok X G (c.fact 56 (f := .glo "bands_by") rfl), F_bands_by.kp, fun j hj => by
    have e : j = 0 := Nat.le_zero.mp hj
    subst e
    exact dfl_none (F_bands_by.bindsN fun _ _ _ _ _ _ us hl => match us, hl with | [_, _, _], _ => rfl), ok_bands_by T C_stretches_fn C_cuts_of_fn C_runs_by_fn C_columns_at_fn F_bands_by⟩
  have C_Area_init___mk : MakD false P w K mg base (S0 K) 7 "Area" 2 G_Area_init__ dfl_Area_init__ := ⟨_, _, _, He.glo_ok X G (c.fact 0 (f := .glo "Area") rfl), mkF_of (show ("Area" : Str) ∈ (["Block", "Area"] : List Str) by decide) (He.mkr_ok (c.fact 65 (f := .mkr "Area") rfl)), fun j hj => by
    have hj : j ≤ 1 := hj
    match j, hj with
    | 0, _ =>
      obtain ⟨ds, h1, h2⟩ := F_Area_init__.binds1 (ps := ["self", "blocks"]) 1 0 (by intro z; cases z) rfl (fun _ _ _ _ _ _ _ us its hl hl2 => match us, hl, its, hl2 with | [_], _, [_], _ => ⟨_, rfl, rfl⟩)
      exact dfl_of (dd := dfl_Area_init__) (by decide +kernel) h1 h2
    | 1, _ =>
      obtain ⟨ds, h1, h2⟩ := F_Area_init__.binds1 (ps := ["self", "blocks"]) 2 1 (by intro z; cases z) rfl (fun _ _ _ _ _ _ _ us its hl hl2 => match us, hl, its, hl2 with | [_, _], _, [_], _ => ⟨_, rfl, rfl⟩)
      exact dfl_of (dd := dfl_Area_init__) (by decide +kernel) h1 h2
, ok_Area_init__ T C_checked_blocks_fn C_form_of_fn C_bands_by_fn F_Area_init__⟩
  have C_law_made_fn : CalD false P w K mg base (S0 K) 6 "_law_made" 1 G_law_made_k12 dfl_law_made_k12 := ⟨_, _, _, He.glo_ok X G (c.fact 57 (f := .glo "_law_made") rfl), F_law_made.kp, fun j hj => by
    have e : j = 0 := Nat.le_zero.mp hj
    subst e
    exact dfl_none (F_law_made.bindsN fun _ _ _ _ _ _ us hl => match us, hl with | [_], _ => rfl), ok_law_made T C_Block_init___mk F_law_made⟩
  have C_law_near_fn : CalD false P w K mg base (S0 K) 3 "_law_near" 2 G_law_near_k12 dfl_law_near_k12 := ⟨_, _, _, He.glo_ok X G (c.fact 58 (f := .glo "_law_near") rfl), F_law_near.kp, fun j hj => by
    have e : j = 0 := Nat.le_zero.mp hj
    subst e
    exact dfl_none (F_law_near.bindsN fun _ _ _ _ _ _ us hl => match us, hl with | [_, _], _ => rfl), ok_law_near T C_law_next_fn F_law_near⟩
  have C_is_cell_fn : CalD false P w K mg base (S0 K) 3 "is_cell" 1 G_is_cell dfl_is_cell := ⟨_, _, _, He.glo_ok X G (c.fact 59 (f := .glo "is_cell") rfl), F_is_cell.kp, fun j hj => by
    have e : j = 0 := Nat.le_zero.mp hj
    subst e
    exact dfl_none (F_is_cell.bindsN fun _ _ _ _ _ _ us hl => match us, hl with | [_], _ => rfl), ok_is_cell T C_is_count_fn F_is_cell⟩
  have C_checked_cell_fn : CalD false P w K mg base (S0 K) 4 "checked_cell" 1 G_checked_cell dfl_checked_cell := ⟨_, _, _, He.glo_ok X G (c.fact 60 (f := .glo "checked_cell") rfl), F_checked_cell.kp, fun j hj => by
    have e : j = 0 := Nat.le_zero.mp hj
    subst e
    exact dfl_none (F_checked_cell.bindsN fun _ _ _ _ _ _ us hl => match us, hl with | [_], _ => rfl), ok_checked_cell T C_is_cell_fn F_checked_cell⟩
  have C_Block_has_mt : MetD false P w K mg base (S0 K) 5 "Block" "has" 2 G_Block_has dfl_Block_has := ⟨_, _, _, mtF_of (He.cls_ok (c.fact 36 (f := .cls "Block") rfl)) (He.meth_ok (c.fact 66 (f := .meth "Block" "has") rfl)), fun j hj => by
    have e : j = 0 := Nat.le_zero.mp hj
    subst e
    exact dfl_none (F_Block_has.bindsN fun _ _ _ _ _ _ us hl => match us, hl with | [_, _], _ => rfl), ok_Block_has T C_checked_cell_fn F_Block_has⟩
  have C_Area_has_mt : MetD false P w K mg base (S0 K) 6 "Area" "has" 2 G_Area_has dfl_Area_has := ⟨_, _, _, mtF_of (He.cls_ok (c.fact 37 (f := .cls "Area") rfl)) (He.meth_ok (c.fact 67 (f := .meth "Area" "has") rfl)), fun j hj => by
    have e : j = 0 := Nat.le_zero.mp hj
    subst e
    exact dfl_none (F_Area_has.bindsN fun _ _ _ _ _ _ us hl => match us, hl with | [_, _], _ => rfl), ok_Area_has T C_checked_cell_fn C_Block_has_mt F_Area_has⟩
  have C_law_has_fn : CalD false P w K mg base (S0 K) 1 "_law_has" 3 G_law_has_k12 dfl_law_has_k12 := ⟨_, _, _, He.glo_ok X G (c.fact 61 (f := .glo "_law_has") rfl), F_law_has.kp, fun j hj => by
    have e : j = 0 := Nat.le_zero.mp hj
    subst e
    exact dfl_none (F_law_has.bindsN fun _ _ _ _ _ _ us hl => match us, hl with | [_, _, _], _ => rfl), ok_law_has T  F_law_has⟩
  have C_law_refused_fn : CalD false P w K mg base (S0 K) 7 "_law_refused" 2 G_law_refused_k12 dfl_law_refused_k12 := ⟨_, _, _, He.glo_ok X G (c.fact 62 (f := .glo "_law_refused") rfl), F_law_refused.kp, fun j hj => by
    have e : j = 0 := Nat.le_zero.mp hj
    subst e
    exact dfl_none (F_law_refused.bindsN fun _ _ _ _ _ _ us hl => match us, hl with | [_, _], _ => rfl), ok_law_refused T C_Area_has_mt F_law_refused⟩
  exact fnOk_any (md := false) (ok_law T C_law_source_nw C_law_cell_at_fn C_law_drawn_fn C_Area_init___mk C_law_made_fn C_law_next_fn C_law_near_fn C_Area_has_mt C_law_has_fn C_Block_init___mk C_law_refused_fn F_law)
end
end K12
open PySem PySem.W PySem.Calls PyProof.Rows
theorem K12.end_ (main : ∀ ns : List Int, ns.length ≤ 63 → ∃ μ, PG.G_law_k12 [.scr ns] [] = .ok (.bl true) μ) : PySem.Challenge.rw_cellblocks_k12_cells_of_areas.Holds := by
  w_on; o_law
  refine HandSHeadRun.head_any (r := OpenLaw.row PySem.Challenge.rw_cellblocks_k12_cells_of_areas) (q := view (OpenLaw.row PySem.Challenge.rw_cellblocks_k12_cells_of_areas).prog [51]) (H := K12.hk) (ob := K12.ob) (M := 16000) (loose := K12.nms) (d := HandSHeadRun.topDef (OpenLaw.row PySem.Challenge.rw_cellblocks_k12_cells_of_areas).prog 51) (kwd := []) K12.ob_eq
    (by kernel_rfl) (fun s => by kernel_rfl) K12.run (by kernel_rfl) (by kernel_rfl) (by kernel_rfl) (by rfl) (by first | assumption | decide +kernel) (by decide +kernel) ⟨rfl, rfl, rfl, rfl, rfl, by decide +kernel⟩ ?hw ?hc
  case hw => w_witness2
  case hc =>
    refine L2.walk_ofE (l := PySem.Challenge.rw_cellblocks_k12_cells_of_areas) (n := 63) (k := 9) (x := "_law_script") (CX := DL.CXA (PySem.Challenge.rw_cellblocks_k12_cells_of_areas).prog) rfl (by decide) (by kernel_rfl) ⟨rfl, by decide, by decide⟩ ?F (fun _ _ _ _ z => DL.cxA_false z)
    intro w mg fa h Y G hmg0
    obtain ⟨K, KX, c⟩ := Y
    have hmg : mg ("law" : PySem.Str) = some (.ref fa) := by
      have e : (HandSHeadRun.topDef (OpenLaw.row PySem.Challenge.rw_cellblocks_k12_cells_of_areas).prog 51).name = ("law" : PySem.Str) := by kernel_rfl
      rw [← e]
      exact hmg0
    obtain ⟨c1, c2⟩ := DL.saysX c
    obtain ⟨fd, hb, hF⟩ := K12.facts (P := (PySem.Challenge.rw_cellblocks_k12_cells_of_areas).prog) (w := w) KX G hmg c1 c2
    exact ⟨K, fd, _, KX, hb, fun H a ns hl _ hS => DL.law_sp (main ns hl) hS, hF⟩
theorem PySem.Challenge.cw_cellblocks_k12_cells_of_areas_holds : PySem.Challenge.rw_cellblocks_k12_cells_of_areas.Holds := by
  exact K12.end_ fun ns h => PG.law_main12 h
