import PyProof.Rows.All
import Wide.All
import OpenK.AllK
import Wide.FinOn
import HandS.ForMost
import HandS.ForExc
import HandS.ExcCtx
import HandS.CallSlots
import HandS.Flow
import HandS.Wide
import HandS.IsInst
import HandS.Walk
import HandS.Style
import HandS.Defaults
import HandS.SuiteRaise
import HandS.HeadHook1
import KE.KStateDown
import HandS.Head0
import HandS.Head1
import HandS.Head2
import HandS.HeadEnd
import HandS.HeadHook2
import HandS.StrMore
import KE.KRevSl
import KE.DataCmp
import KE.SortData
import HandS.OwnEq
import PyProof.InstNe
import HandS.MakeKw
import KE.KFmtOwn
import HandS.FStr
import HandS.CallLocal
import HandS.Text
import HandS.Replace
import HandS.RaiseMore
import HandS.Conv
import HandS.ReplaceLit
import PyProof.ToksMono
import HandS.HotCalls
import HandS.ExcIs
import KE.KExcIs
import HandS.FStrTup
import HandS.TupAny
import HandS.ExcInit
import HandS.Zip
import HandS.ExcField
import KE.GoesEnumKw
import PyProof.Rows.StrStrike
import PySem.Challenge.RW_cellblocks_k21_names_made
set_option Elab.async false
set_option linter.all false
set_option maxRecDepth 100000
/-! A small interpreter's data: what a Python value is worth (D), the cells that may change (M), and how both lie in the layer's heap. -/
namespace DL
open PySem PySem.Spec PyProof.Rows L2
/-- a datum: what never changes is a tree; mut i is the cell number i -/
inductive D where
  | non | bl (b : Bool) | int (i : Int) | str (s : Str) | ty (n : String) | glo (x : Str)
  | tup (l : List D) | lst (l : List D) | dct (ks : List Key) (l : List D) | obj (c : Str) (ns : List Str) (l : List D)
  | cel (i : Nat) | scr (ns : List Int) | exc (c : Str) (ns : List Str) (l : List D)
  /-- some text: which one is not known -/
  | txt
/-- a cell that may change -/
inductive M where
  | lst (l : List D) | dct (ks : List Key) (l : List D) | obj (c : Str) (ns : List Str) (l : List D) | dead
structure Sx where
  K : PySem.W.Frag
  A : Str → Addr
  n0 : Nat
  pn : List (Addr × Obj)
  cls : List Str
/-! ### how a datum lies in the heap -/
def okS (x : Str) : Bool := x.cps.all (· < 0x110000)
mutual
def rep (S : Sx) (io : List Addr) (F : Hp) : D → V → Prop
  | .non, v => v = .non
  | .bl b, v => v = .bl b
  | .int i, v => v = .int i
  | .str s, v => v = .str s ∧ okS s = true
  | .ty n, v => v = .ty n
  | .glo x, v => v = .ref (S.A x)
  | .tup l, v => ∃ a xs, v = .ref a ∧ SqT S.K F a xs ∧ reps S io F l xs
  | .lst l, v => ∃ a xs, v = .ref a ∧ F a = some (.lst xs) ∧ reps S io F l xs
  | .scr ns, v => ∃ a, v = .ref a ∧ SqL S.K F a (ns.map V.int)
  | .dct ks l, v => ∃ a kvs, v = .ref a ∧ F a = some (.dK kvs) ∧ kvs.map (·.1) = ks ∧ reps S io F l (kvs.map (·.2))
  | .obj c ns l, v => ∃ a dx fs, v = .ref a ∧ F a = some (.ins (S.A c) dx fs) ∧ fs.map (·.1) = ns ∧ reps S io F l (fs.map (·.2)) ∧ c ∈ S.cls
  | .cel i, v => ∃ a, v = .ref a ∧ io[i]? = some a
  | .exc c ns l, v => ∃ a oe d, v = .ref a ∧ (a, oe) ∈ S.pn ∧ Zc (.ref (S.A c)) d oe ∧ (∃ vs, oe.data = .fields vs) ∧
      ((ns = [] ∧ l = [] ∧ d = none) ∨ ∃ dd fs, d = some dd ∧ F dd = some (.xd fs) ∧ fs.map (·.1) = ns ∧ reps S io F l (fs.map (·.2)))
  | .txt, v => ∃ m, v = .str m
def reps (S : Sx) (io : List Addr) (F : Hp) : List D → List V → Prop
  | [], xs => xs = []
  | d :: l, xs => ∃ x r, xs = x :: r ∧ rep S io F d x ∧ reps S io F l r
end
section
variable {S : Sx} {io : List Addr} {F : Hp}
theorem reps.nil : reps S io F [] [] := by unfold reps; rfl
theorem reps.cons {d : D} {l : List D} {x : V} {r : List V} (h : rep S io F d x) (t : reps S io F l r) : reps S io F (d :: l) (x :: r) := by
  unfold reps; exact ⟨x, r, rfl, h, t⟩
theorem reps.uncons {d : D} {l : List D} {xs : List V} (h : reps S io F (d :: l) xs) : ∃ x r, xs = x :: r ∧ rep S io F d x ∧ reps S io F l r := by
  unfold reps at h; exact h
theorem reps.eq_nil {xs : List V} (h : reps S io F [] xs) : xs = [] := by unfold reps at h; exact h
theorem reps.take : ∀ {l : List D} {xs : List V} (n : Nat), reps S io F l xs → reps S io F (l.take n) (xs.take n)
  | _, _, 0, _ => by rw [List.take_zero, List.take_zero]; exact .nil
  | [], _, _ + 1, h => by rw [h.eq_nil]; exact .nil
  | d :: l, _, n + 1, h => by
    obtain ⟨x, r, rfl, h2, h3⟩ := h.uncons
    exact .cons h2 (reps.take n h3)
end
/-! ### a state -/
end DL
namespace DL
open PySem PySem.Spec PyProof.Rows L2
abbrev En := List (Option D)
/-- an expression's outcome -/
inductive Out (α : Type) where
  | ok (a : α) (μ : List M) | ex (c : Str) (ns : List Str) (l : List D) (μ : List M) | stuck
/-- a statement's -/
inductive SO where
  | nx (e : En) (μ : List M) | rt (d : D) (μ : List M) | bk (e : En) (μ : List M) | ct (e : En) (μ : List M) | ex (c : Str) (ns : List Str) (l : List D) (e : En) (μ : List M) | stuck
@[simp] def Out.bind {α β : Type} : Out α → (α → List M → Out β) → Out β
  | .ok a μ, f => f a μ
  | .ex c ns l μ, _ => .ex c ns l μ
  | .stuck, _ => .stuck
@[simp] def Out.bindS {α : Type} : Out α → En → (α → List M → SO) → SO
  | .ok a μ, _, f => f a μ
  | .ex c ns l μ, e, _ => .ex c ns l e μ
  | .stuck, _, _ => .stuck
@[simp] def SO.bind : SO → (En → List M → SO) → SO
  | .nx e μ, f => f e μ
  | .rt d μ, _ => .rt d μ
  | .bk e μ, _ => .bk e μ
  | .ct e μ, _ => .ct e μ
  | .ex c ns l e μ, _ => .ex c ns l e μ
  | .stuck, _ => .stuck
abbrev DE := En → List M → Out D
abbrev DT := En → List M → Out Bool
abbrev DA := En → List M → Out (List D)
section
variable {X : Cx} {S : Sx} {W : WX} {a b e : Expr} {es : List Expr} {da db d : DE} {pos : Pos} {k : Nat}
/-! ### the binds -/
/-! ### names, constants -/
@[simp] def dC (d : D) : DE := fun _ μ => .ok d μ
end
end DL
namespace DL
open PySem PySem.Spec PyProof.Rows L2
/-! ### what is read of a datum -/
/-! ### operators -/
end DL
namespace DL
open PySem PySem.Spec PyProof.Rows L2
/-! ### equality of plain data -/
end DL
namespace DL
open PySem PySem.Spec PyProof.Rows L2
/-! ### the widest readings of a denotation -/
section
variable {X : Cx} {S : Sx} {W : WX} {a b e : Expr} {es : List Expr} {da db d : DE} {dt : DT} {ds : DA} {pos : Pos} {k : Nat}
/-! ### arguments, displays -/
@[simp] def aNil : DA := fun _ μ => .ok [] μ
/-! ### subscripts -/
/-! ### slices -/
/-! ### fields -/
end
end DL
namespace DL
open PySem PySem.Spec PyProof.Rows L2
open Classical in
noncomputable def guard (g : List M → Prop) (μ : List M) : Bool := decide (g μ)
theorem guard_iff {g : List M → Prop} {μ : List M} : guard g μ = true ↔ g μ := by unfold guard; simp
@[simp] theorem guard_true {μ : List M} : guard (fun _ => True) μ = true := guard_iff.mpr trivial
/-! ### targets -/
@[simp] def gsNil : List D → En → List M → Option En := fun l env _ => match l with
  | [] => some env
  | _ => none
end DL
namespace DL
open PySem PySem.Spec PyProof.Rows L2
end DL
namespace DL
open PySem PySem.Spec PyProof.Rows L2
section
variable {X : Cx} {S : Sx} {W : WX} {a b e tg : Expr} {es : List Expr} {da db d : DE} {dt : DT} {ds : DA} {pos : Pos} {k : Nat}
/-! ### comprehensions -/
@[simp] def tYes' : DT := fun _ μ => .ok true μ
end
end DL
namespace DL
open PySem PySem.Spec PyProof.Rows L2
/-! ### what a def hands back: cells of its own become data -/
mutual
def clean (n : Nat) : D → Bool
  | .cel i => decide (i < n)
  | .tup l => cleans n l | .lst l => cleans n l | .dct _ l => cleans n l | .obj _ _ l => cleans n l | .exc _ _ _ => false
  | _ => true
def cleans (n : Nat) : List D → Bool
  | [] => true
  | d :: l => clean n d && cleans n l
end
def cleanM (n : Nat) : M → Bool
  | .lst l => cleans n l
  | .dct _ l => cleans n l
  | .obj _ _ l => cleans n l
  | .dead => true
end DL
/-! ### two ways to let exceptions out: none of them has a context (false), or they may (true) -/
namespace DL
open PySem PySem.Spec PyProof.Rows L2
/-! ### the same, at another number of cells -/
/-! ### what a def promises -/
/-! ### calls -/
end DL
namespace DL
open PySem PySem.Spec PyProof.Rows L2
section
variable {X : Cx} {S : Sx} {W : WX} {a b e o : Expr} {es : List Expr} {da db d : DE} {ds : DA} {pos p : Pos} {k : Nat}
/-! ### types -/
abbrev Ty := Sum String Str
def tyv (S : Sx) : Ty → Value
  | .inl n => .type n
  | .inr c => .ref (S.A c)
/-! ### calls of built-ins -/
/-! isinstance -/
def supers : List (Str × Str) := [("PutRows", "OfRows"), ("PutRows", "Lines"), ("PutRows", "Change"), ("TakeRows", "OfRows"), ("TakeRows", "Lines"), ("TakeRows", "Change"), ("PutColumns", "OfColumns"), ("PutColumns", "Lines"), ("PutColumns", "Change"),
  ("TakeColumns", "OfColumns"), ("TakeColumns", "Lines"), ("TakeColumns", "Change"), ("Move", "Change"), ("Lines", "Change"), ("OfRows", "Lines"), ("OfColumns", "Lines"), ("OfRows", "Change"), ("OfColumns", "Change")]
def isSub : Ty → Ty → Bool
  | .inl a, .inl b => a == b || (a == "bool" && b == "int")
  | .inr a, .inr b => a == b || supers.contains (a, b)
  | _, _ => false
def plainTys : List String := ["NoneType", "bool", "int", "str", "tuple", "list", "dict"]
def tysOf (S : Sx) : List Ty := plainTys.map .inl ++ S.cls.map .inr
/-! len -/
/-! int, min, max, list, tuple, divmod, all, any, str -/
end
end DL
namespace DL
open PySem PySem.Spec PyProof.Rows L2
end DL
namespace DL
open PySem PySem.Spec PyProof.Rows L2
end DL
namespace DL
open PySem PySem.Spec PyProof.Rows L2
/-! ### a new list handed back, to be changed by the caller -/
end DL
/-! ### the head's facts, with one more test -/
namespace DL
open PySem PySem.Spec PyProof.Rows L2 He
abbrev AlX : Type := Bool × AlD
def obsX (chk : PySem.W.Frag → Bool) (fa : List Fa) (fn : List DefD) (K : PySem.W.Frag) : AlX := (chk K, obsD fa fn K)
def obsXG (n : Nat) (chk : PySem.W.Frag → Bool) (fa : List Fa) (fn : List DefD) (g : Addr → Option Obj) : AlX := obsX chk fa fn (frG g (asD g n))
def hookX (n : Nat) (chk : PySem.W.Frag → Bool) (fa : List Fa) (fn : List DefD) : PySem.W.Hook where
  α := AlX
  obs := fun s => obsXG n chk fa fn s.heap.get?
  val := fun _ => (true, valD fn)
  says := fun _ h => ∃ K : PySem.W.Frag, K.In h ∧ obsX chk fa fn K = (true, valD fn)
  of := fun _ _ e => ⟨_, frG_in, e⟩
  keeps := fun _ _ _ ⟨K, hK, c⟩ k => ⟨K, PySem.W.Frag.In.keeps hK k, c⟩
/-! ### what is known of a def, a class, a method -/
end DL
namespace DL
open PySem PySem.Spec PyProof.Rows L2
end DL
namespace DL
open PySem PySem.Spec PyProof.Rows L2
/-! ### <, <=, >, >= of alike data -/
end DL
namespace DL
open PySem PySem.Spec PyProof.Rows L2
/-! ### the ends: the law's def, from its value -/
/-- decidable readings of what a class, a kind needs -/
def insB (K : PySem.W.Frag) (C : Addr) : Bool := He.eqO (PySem.W.findIn K (.ref C) "__class__") (some (some (.builtin "object.__class__"))) && (He.eqO (PySem.W.specialIn K (.builtin "object.__class__") "__get__") (some (some (.builtin "getset_descriptor.__get__"))) &&
  (decide (PySem.W.takesIn K (.builtin "object.__class__") = some true) && decide (PySem.W.mroIn K C (.type "object") = some true)))
def kitB (S : Sx) (u : Ty) : Bool := (tysOf S).all fun t => decide (PySem.W.kitOne S.K (tyv S t) (tyv S u) = some (isSub t u))
end DL
namespace DL
open PySem PySem.Spec PyProof.Rows L2
/-! ### what a denotation comes to: its value, by what is asked behind it. The boxes keep what is asked behind out of simp's sight -/
end DL
namespace DL
open PySem PySem.Spec PyProof.Rows L2
end DL
namespace DL
open PySem PySem.Spec PyProof.Rows L2
section
variable {m : List M} {i j : Int} {x y : Str} {b c : Bool} {l l' : List D} {d : D}
/-! what a def hands back -/
def Cln (m : List M) : Prop := ∀ x ∈ m, cleanM 0 x = true
mutual
theorem clean_up {n : Nat} : ∀ d : D, clean 0 d = true → clean n d = true
  | .cel i, h => by unfold clean at h; cases of_decide_eq_true h
  | .tup l, h => by unfold clean at h ⊢; exact cleans_up l h
  | .lst l, h => by unfold clean at h ⊢; exact cleans_up l h
  | .dct ks l, h => by unfold clean at h ⊢; exact cleans_up l h
  | .obj c ns l, h => by unfold clean at h ⊢; exact cleans_up l h
  | .exc c ns l, h => by unfold clean at h; cases h
  | .non, _ => rfl
  | .txt, _ => rfl
  | .bl _, _ => rfl
  | .int _, _ => rfl
  | .str _, _ => rfl
  | .ty _, _ => rfl
  | .glo _, _ => rfl
  | .scr _, _ => rfl
theorem cleans_up {n : Nat} : ∀ l : List D, cleans 0 l = true → cleans n l = true
  | [], _ => rfl
  | d :: l, h => by
    unfold cleans at h ⊢
    have h := Bool.and_eq_true_iff.mp h
    rw [clean_up d h.1, cleans_up l h.2]; rfl
end
theorem cleanM_up {n : Nat} {x : M} (h : cleanM 0 x = true) : cleanM n x = true := by
  cases x <;> first | rfl | exact cleans_up _ h
theorem Cln.all {n k : Nat} (h : Cln m) : (m.take n).all (cleanM k) = true := List.all_eq_true.mpr fun x hx => cleanM_up (h x (List.mem_of_mem_take hx))
end
end DL
namespace DL
open PySem PySem.Spec PyProof.Rows L2
end DL
namespace DL
open PySem PySem.Spec PyProof.Rows L2
end DL
namespace DL
open PySem PySem.Spec PyProof.Rows L2
/-! ### x == y, x an object of a class with an own __eq__ -/
end DL
namespace PySem.W
open PySem PySem.Calls PyProof.Rows
end PySem.W
namespace DL
open PySem PySem.Spec PyProof.Rows L2
/-! ### x != y, x an object of a class with an own __eq__ and no __ne__ -/
end DL
namespace DL
open PySem PySem.Spec PyProof.Rows L2
/-! ### makings with keywords -/
end DL
namespace DL
open PySem PySem.Spec PyProof.Rows L2
/-! ### str(x), repr(x), f'{x}' of an object whose class says how -/
end DL
namespace DL
open PySem PySem.Spec PyProof.Rows L2
/-! ### defaults, as data -/
end DL
namespace DL
open PySem PySem.Spec PyProof.Rows L2
end DL
namespace DL
open PySem PySem.Spec PyProof.Rows L2
end DL
namespace DL
open PySem PySem.Spec PyProof.Rows L2
/-! ### decidable readings of what a class needs -/
def nfB (S : Sx) (c : Str) : Bool := (tysOf S).all fun t => PySem.W.notFirst S.K (S.A c) (tyv S t)
def neB (S : Sx) (c : Str) : Bool := He.eqO (PySem.W.findIn S.K (.ref (S.A c)) "__ne__") (some (some (.builtin "object.__ne__"))) && decide (PySem.W.subIn S.K (.ref (S.A c)) (.type "object") = some true)
end DL
namespace DL
open PySem PySem.Spec PyProof.Rows L2
/-! ### readings of the further denotations -/
end DL
namespace DL
open PySem PySem.Spec PyProof.Rows L2
/-! ### a making, by what __init__ comes to -/
/-! ### plain data: equality, cleanliness, by parts -/
end DL
namespace DL
open PySem PySem.Spec PyProof.Rows L2
end DL
namespace DL
open PySem PySem.Spec PyProof.Rows L2
end DL
namespace DL
open PySem PySem.Spec PyProof.Rows L2
end DL
/-! ### where a token is out: x.replace(y, z) -/
namespace DL
open PySem PySem.Spec PyProof.Rows L2
end DL
/-! ### list * int -/
namespace DL
open PySem PySem.Spec PyProof.Rows L2
end DL
set_option maxHeartbeats 1000000
/-! ### a comprehension while an exception is handled -/
namespace L2P
open PySem PySem.Spec PyProof.Rows L2 L2H HotX
end L2P
set_option maxHeartbeats 1000000
/-! ### a def that is called while an exception is handled; what it promises may speak of that exception -/
namespace L2P
open PySem PySem.Spec PyProof.Rows L2 L2H HotX
end L2P
namespace DL
open PySem PySem.Spec PyProof.Rows L2 L2P L2H
/-! ### data while an exception is pinned -/
end DL
set_option maxHeartbeats 1000000
/-! ### rules where an exception is handled -/
namespace L2H
open PySem PySem.Spec PyProof.Rows L2
end L2H
namespace DL
open PySem PySem.Spec PyProof.Rows L2 L2P L2H
/-! what an exception is -/
def exSub (x : Str) : Ty → Bool
  | .inr u => x == u || u == "CellError"
  | .inl n => n == "ValueError"
def exCB (K : PySem.W.Frag) (D : Addr) : Bool := He.eqO (PySem.W.findIn K (.ref D) "__getattribute__") (some (some (.builtin "BaseException.__getattribute__"))) && (He.eqO (PySem.W.findIn K (.ref D) "__getattr__") (some none) &&
  (decide (PySem.W.subIn K (.ref D) (.type "BaseException") = some true) && (PySem.W.hasDictIn K D && (He.eqO (PySem.W.findIn K (.ref D) "__class__") (some (some (.builtin "object.__class__"))) &&
  (He.eqO (PySem.W.specialIn K (.builtin "object.__class__") "__get__") (some (some (.builtin "getset_descriptor.__get__"))) && (decide (PySem.W.takesIn K (.builtin "object.__class__") = some true) && decide (PySem.W.mroIn K D (.type "object") = some true)))))))
def excsB (S : Sx) (xs : List Str) (u : Ty) : Bool := xs.all fun x => exCB S.K (S.A x) && decide (PySem.W.kitOne S.K (.ref (S.A x)) (tyv S u) = some (exSub x u))
def exmB (S : Sx) (xs : List Str) (u : Str) : Bool := xs.all fun x => decide (PySem.W.exmOne S.K (.ref (S.A x)) (.ref (S.A u)) = some (exSub x (.inr u)))
end DL
set_option maxHeartbeats 1000000
namespace DL
open PySem PySem.Spec PyProof.Rows L2 L2P L2H
/-! ### calls of a def from a suite; such a def -/
/-! ### try: .. except u as n: .. -/
end DL
namespace DL
open PySem PySem.Spec PyProof.Rows L2 L2P L2H
end DL
namespace DL
open PySem PySem.Spec PyProof.Rows L2
end DL
set_option maxHeartbeats 1000000
namespace DL
open PySem PySem.Spec PyProof.Rows L2 Builtin.Str
/-! ### str(x) of a tuple of two numbers: some text, which one is not known (a repr of it may be under way) -/
end DL
set_option maxHeartbeats 1000000
namespace DL
open PySem PySem.Spec PyProof.Rows L2
/-! ### B.__init__(self, ..), B an own class over ValueError that has no __init__ of its own -/
/-! ### C(..), C an own class over ValueError with an own __init__ -/
/-! ### such an __init__ -/
/-! ### what a class must have, as a check -/
end DL
set_option maxHeartbeats 2000000
/-! ### try: .. except (A, B): .., where the suite is not come to: other exceptions pass -/
namespace DL
open PySem PySem.Spec PyProof.Rows L2
end DL
set_option maxHeartbeats 1000000
namespace DL
open PySem PySem.Spec PyProof.Rows L2
/-! ### readings -/
end DL
/-! ### a list, a dict among texts: none of them is equal to it -/
namespace PySem.SeqAt
open AutoSeq1 (wpAny_loadPart')
open MeetsSeq
end PySem.SeqAt
namespace DL
open PySem PySem.Spec PyProof.Rows L2
end DL
/-! ### the head's facts, with the classes' common record besides (reading an attribute off a class looks there) -/
namespace DL
open PySem PySem.Spec PyProof.Rows L2 He
end DL
namespace DL
open PySem PySem.Spec PyProof.Rows L2
/-! ### f'{x!r}' of an object whose class says how -/
/-! ### readings -/
end DL
set_option maxHeartbeats 1000000
/-! zip(a, b, strict=True): a list beside a tuple, of one length -/
set_option maxHeartbeats 1000000
/-! a strict zip, walked -/
namespace DL
open PySem PySem.Spec PyProof.Rows L2 L2P L2H
/-! ### for a, b in zip(xs, ys, strict=True): a list beside a tuple of as many items -/
/-! ### readings -/
end DL
/-! ### the top's run, looked at in parts: each part is its own run in the kernel, so that none needs all the memory at once -/
namespace DL
open PySem PySem.Spec PyProof.Rows L2 He
end DL
namespace DL
open PySem PySem.Spec PyProof.Rows L2
/-! ### max(xs) of a list of whole numbers -/
end DL
set_option maxHeartbeats 1000000
/-! t[::-1] of a tuple of two -/
namespace DL
open PySem PySem.Spec PyProof.Rows L2
end DL
namespace DL
open PySem PySem.Spec PyProof.Rows L2
/-! ### x, y = f(..): two new lists handed back in a tuple, to be changed by the caller -/
end DL
/-! ### readings -/
namespace DL
open PySem PySem.Spec PyProof.Rows L2
end DL
/-! x != y, x == y of tuples that hold objects with an own ==, where all is equal -/
namespace DL
open PySem PySem.Spec PyProof.Rows L2
end DL
set_option maxHeartbeats 0
namespace K21
open PySem PySem.Spec PyProof.Rows L2 DL
abbrev top (i : Nat) : Stmt := PySem.Challenge.pw_cellblocks_k21_names_made.main.body.getD i (.Pass ⟨0, 0, 0, 0⟩)
abbrev S0 (K : PySem.W.Frag) : Sx := ⟨K, He.ga K, 0, [], ["Block", "Name"]⟩
abbrev inClass (st : Stmt) (j : Nat) : Stmt := match st with
  | .ClassDef _ _ _ body _ _ _ _ _ _ _ => body.getD j (.Pass ⟨0, 0, 0, 0⟩)
  | s => s
abbrev st_law_well : Stmt := top 50
abbrev st_law_draw : Stmt := top 51
abbrev st_law_number : Stmt := top 53
abbrev st_law_last : Stmt := top 54
abbrev st_law_block : Stmt := top 55
abbrev st_law_is_columns : Stmt := top 57
abbrev st_law_is_rows : Stmt := top 56
abbrev st_law_is_cell : Stmt := top 58
abbrev st_law_marks : Stmt := top 59
abbrev st_is_whole : Stmt := top 23
abbrev st_is_count : Stmt := top 24
abbrev st_is_end : Stmt := top 31
abbrev st_Block_init__ : Stmt := inClass (top 36) 0
abbrev st_law_may : Stmt := top 60
abbrev st_are_marks : Stmt := top 41
abbrev st_Block_size : Stmt := inClass (top 36) 5
abbrev st_may_be : Stmt := top 42
abbrev st_is_columns : Stmt := top 33
abbrev st_is_rows : Stmt := top 32
abbrev st_Name_init__ : Stmt := inClass (top 47) 0
abbrev st_law_word : Stmt := top 52
abbrev st_law_tried : Stmt := top 61
abbrev st_Block_eq__ : Stmt := inClass (top 36) 1
abbrev st_law_all_ways : Stmt := top 62
abbrev st_law_bad : Stmt := top 63
abbrev st_law_others_refused : Stmt := top 64
abbrev st_Name_eq__ : Stmt := inClass (top 47) 1
abbrev st_is_cell : Stmt := top 25
abbrev st_checked_cell : Stmt := top 26
abbrev st_checked_manner : Stmt := top 46
abbrev st_fast_text : Stmt := top 43
abbrev st_row_text : Stmt := top 37
abbrev st_letters_of : Stmt := top 29
abbrev st_column_text : Stmt := top 38
abbrev st_numbers_beside : Stmt := top 45
abbrev st_letters_ahead : Stmt := top 34
abbrev st_by_ends : Stmt := top 35
abbrev st_far_text : Stmt := top 44
abbrev st_Name_shown : Stmt := inClass (top 47) 5
abbrev st_Name_str__ : Stmt := inClass (top 47) 2
abbrev st_law : Stmt := top 65
def d_law_well : He.DefD := ⟨("_law_well", none), "_law_well", "_law_well", defArgs st_law_well, defBody st_law_well, defScope st_law_well, [], []⟩
def d_law_draw : He.DefD := ⟨("_law_draw", none), "_law_draw", "_law_draw", defArgs st_law_draw, defBody st_law_draw, defScope st_law_draw, [], []⟩
def d_law_number : He.DefD := ⟨("_law_number", none), "_law_number", "_law_number", defArgs st_law_number, defBody st_law_number, defScope st_law_number, [], []⟩
def d_law_last : He.DefD := ⟨("_law_last", none), "_law_last", "_law_last", defArgs st_law_last, defBody st_law_last, defScope st_law_last, [], []⟩
def d_law_block : He.DefD := ⟨("_law_block", none), "_law_block", "_law_block", defArgs st_law_block, defBody st_law_block, defScope st_law_block, [], []⟩
def d_law_is_columns : He.DefD := ⟨("_law_is_columns", none), "_law_is_columns", "_law_is_columns", defArgs st_law_is_columns, defBody st_law_is_columns, defScope st_law_is_columns, [], []⟩
def d_law_is_rows : He.DefD := ⟨("_law_is_rows", none), "_law_is_rows", "_law_is_rows", defArgs st_law_is_rows, defBody st_law_is_rows, defScope st_law_is_rows, [], []⟩
def d_law_is_cell : He.DefD := ⟨("_law_is_cell", none), "_law_is_cell", "_law_is_cell", defArgs st_law_is_cell, defBody st_law_is_cell, defScope st_law_is_cell, [], []⟩
def d_law_marks : He.DefD := ⟨("_law_marks", none), "_law_marks", "_law_marks", defArgs st_law_marks, defBody st_law_marks, defScope st_law_marks, [], []⟩
def d_is_whole : He.DefD := ⟨("is_whole", none), "is_whole", "is_whole", defArgs st_is_whole, defBody st_is_whole, defScope st_is_whole, [], []⟩
def d_is_count : He.DefD := ⟨("is_count", none), "is_count", "is_count", defArgs st_is_count, defBody st_is_count, defScope st_is_count, [], []⟩
def d_is_end : He.DefD := ⟨("is_end", none), "is_end", "is_end", defArgs st_is_end, defBody st_is_end, defScope st_is_end, [], []⟩
def d_Block_init__ : He.DefD := ⟨("Block", some "__init__"), "__init__", "Block.__init__", defArgs st_Block_init__, defBody st_Block_init__, defScope st_Block_init__, [(.int 1), (.int 1), .non, .non], []⟩
def d_law_may : He.DefD := ⟨("_law_may", none), "_law_may", "_law_may", defArgs st_law_may, defBody st_law_may, defScope st_law_may, [], []⟩
def d_are_marks : He.DefD := ⟨("are_marks", none), "are_marks", "are_marks", defArgs st_are_marks, defBody st_are_marks, defScope st_are_marks, [], []⟩
def d_Block_size : He.DefD := ⟨("Block", some "size"), "size", "Block.size", defArgs st_Block_size, defBody st_Block_size, defScope st_Block_size, [], []⟩
def d_may_be : He.DefD := ⟨("may_be", none), "may_be", "may_be", defArgs st_may_be, defBody st_may_be, defScope st_may_be, [], []⟩
def d_is_columns : He.DefD := ⟨("is_columns", none), "is_columns", "is_columns", defArgs st_is_columns, defBody st_is_columns, defScope st_is_columns, [], []⟩
def d_is_rows : He.DefD := ⟨("is_rows", none), "is_rows", "is_rows", defArgs st_is_rows, defBody st_is_rows, defScope st_is_rows, [], []⟩
def d_Name_init__ : He.DefD := ⟨("Name", some "__init__"), "__init__", "Name.__init__", defArgs st_Name_init__, defBody st_Name_init__, defScope st_Name_init__, [.non, .non], []⟩
def d_law_word : He.DefD := ⟨("_law_word", none), "_law_word", "_law_word", defArgs st_law_word, defBody st_law_word, defScope st_law_word, [], []⟩
def d_law_tried : He.DefD := ⟨("_law_tried", none), "_law_tried", "_law_tried", defArgs st_law_tried, defBody st_law_tried, defScope st_law_tried, [], []⟩
def d_Block_eq__ : He.DefD := ⟨("Block", some "__eq__"), "__eq__", "Block.__eq__", defArgs st_Block_eq__, defBody st_Block_eq__, defScope st_Block_eq__, [], []⟩
def d_law_all_ways : He.DefD := ⟨("_law_all_ways", none), "_law_all_ways", "_law_all_ways", defArgs st_law_all_ways, defBody st_law_all_ways, defScope st_law_all_ways, [], []⟩
def d_law_bad : He.DefD := ⟨("_law_bad", none), "_law_bad", "_law_bad", defArgs st_law_bad, defBody st_law_bad, defScope st_law_bad, [], []⟩
def d_law_others_refused : He.DefD := ⟨("_law_others_refused", none), "_law_others_refused", "_law_others_refused", defArgs st_law_others_refused, defBody st_law_others_refused, defScope st_law_others_refused, [], []⟩
def d_Name_eq__ : He.DefD := ⟨("Name", some "__eq__"), "__eq__", "Name.__eq__", defArgs st_Name_eq__, defBody st_Name_eq__, defScope st_Name_eq__, [], []⟩
def d_is_cell : He.DefD := ⟨("is_cell", none), "is_cell", "is_cell", defArgs st_is_cell, defBody st_is_cell, defScope st_is_cell, [], []⟩
def d_checked_cell : He.DefD := ⟨("checked_cell", none), "checked_cell", "checked_cell", defArgs st_checked_cell, defBody st_checked_cell, defScope st_checked_cell, [], []⟩
def d_checked_manner : He.DefD := ⟨("checked_manner", none), "checked_manner", "checked_manner", defArgs st_checked_manner, defBody st_checked_manner, defScope st_checked_manner, [], []⟩
def d_fast_text : He.DefD := ⟨("fast_text", none), "fast_text", "fast_text", defArgs st_fast_text, defBody st_fast_text, defScope st_fast_text, [], []⟩
def d_row_text : He.DefD := ⟨("row_text", none), "row_text", "row_text", defArgs st_row_text, defBody st_row_text, defScope st_row_text, [], []⟩
def d_letters_of : He.DefD := ⟨("letters_of", none), "letters_of", "letters_of", defArgs st_letters_of, defBody st_letters_of, defScope st_letters_of, [], []⟩
def d_column_text : He.DefD := ⟨("column_text", none), "column_text", "column_text", defArgs st_column_text, defBody st_column_text, defScope st_column_text, [], []⟩
def d_numbers_beside : He.DefD := ⟨("numbers_beside", none), "numbers_beside", "numbers_beside", defArgs st_numbers_beside, defBody st_numbers_beside, defScope st_numbers_beside, [], []⟩
def d_letters_ahead : He.DefD := ⟨("letters_ahead", none), "letters_ahead", "letters_ahead", defArgs st_letters_ahead, defBody st_letters_ahead, defScope st_letters_ahead, [], []⟩
def d_by_ends : He.DefD := ⟨("by_ends", none), "by_ends", "by_ends", defArgs st_by_ends, defBody st_by_ends, defScope st_by_ends, [], []⟩
def d_far_text : He.DefD := ⟨("far_text", none), "far_text", "far_text", defArgs st_far_text, defBody st_far_text, defScope st_far_text, [], []⟩
def d_Name_shown : He.DefD := ⟨("Name", some "shown"), "shown", "Name.shown", defArgs st_Name_shown, defBody st_Name_shown, defScope st_Name_shown, [(.str "letters"), .non], []⟩
def d_Name_str__ : He.DefD := ⟨("Name", some "__str__"), "__str__", "Name.__str__", defArgs st_Name_str__, defBody st_Name_str__, defScope st_Name_str__, [], []⟩
def d_law : He.DefD := ⟨("law", none), "law", "law", defArgs st_law, defBody st_law, defScope st_law, [], []⟩
def fns0 : List He.DefD := [d_law_well, d_law_draw, d_law_number, d_law_last, d_law_block, d_law_is_columns, d_law_is_rows, d_law_is_cell, d_law_marks, d_is_whole, d_is_count, d_is_end, d_Block_init__, d_law_may, d_are_marks, d_Block_size, d_may_be, d_is_columns, d_is_rows, d_Name_init__, d_law_word, d_law_tried, d_Block_eq__, d_law_all_ways, d_law_bad, d_law_others_refused, d_Name_eq__, d_is_cell, d_checked_cell, d_checked_manner]
def fns1 : List He.DefD := [d_fast_text, d_row_text, d_letters_of, d_column_text, d_numbers_beside, d_letters_ahead, d_by_ends, d_far_text, d_Name_shown, d_Name_str__, d_law]
def fns : List He.DefD := fns0 ++ (fns1)
def fas0 : List He.Fa := [.glo "Block", .glo "CellError", .glo "Endless", .glo "Gone", .glo "MANNERS", .glo "Name", .glo "NoArea", .glo "NoBlock", .glo "NoCell", .glo "NoChange", .glo "NoColumn", .glo "NoManner", .glo "NoName", .glo "NoNumber", .glo "NoOrder", .glo "NoPlace", .glo "NoRow", .glo "NoSheet", .glo "NoText", .glo "NoValue", .glo "NoWord", .glo "Ring", .glo "Unknown", .glo "letters_ahead", .glo "numbers_beside", .free "ValueError", .free "all", .free "bool", .free "divmod", .free "int"]
def fas1 : List He.Fa := [.free "isinstance", .free "len", .free "min", .free "range", .free "str", .free "tuple", .str "LETTERS" "ABCDEFGHIJKLMNOPQRSTUVWXYZ", .exc "NoBlock", .exc "NoCell", .exc "NoColumn", .exc "NoManner", .exc "NoName", .noat "Block" "block", .noat "Name" "block", .noat "Block" "bottom", .noat "Name" "bottom", .noat "Block" "columns", .noat "Name" "columns", .noat "Block" "left", .noat "Name" "left", .noat "Block" "right", .noat "Name" "right", .noat "Block" "rows", .noat "Name" "rows", .noat "Block" "top", .noat "Name" "top", .cls "Block", .cls "Name", .glo "_law_well", .glo "_law_draw"]
def fas2 : List He.Fa := [.glo "_law_number", .glo "_law_last", .glo "_law_block", .glo "_law_is_columns", .glo "_law_is_rows", .glo "_law_is_cell", .glo "_law_marks", .glo "is_whole", .glo "is_count", .glo "is_end", .glo "_law_may", .glo "are_marks", .glo "may_be", .glo "is_columns", .glo "is_rows", .glo "_law_word", .glo "_law_tried", .glo "_law_all_ways", .glo "_law_bad", .glo "_law_others_refused", .glo "is_cell", .glo "checked_cell", .glo "checked_manner", .glo "fast_text", .glo "row_text", .glo "letters_of", .glo "column_text", .glo "by_ends", .glo "far_text", .glo "law"]
def fas3 : List He.Fa := [.mkr "Block", .meth "Block" "size", .mkr "Name", .meth "Block" "__eq__", .meth "Name" "__eq__", .meth "Name" "shown", .meth "Name" "__str__"]
def fas : List He.Fa := fas0 ++ (fas1 ++ (fas2 ++ (fas3)))
def chk (K : PySem.W.Frag) : Bool := insB K (He.ga K "Block") && (insB K (He.ga K "Name") && (kitB (S0 K) (.inr "Block") && (kitB (S0 K) (.inr "Name") && (kitB (S0 K) (.inl "bool") && (kitB (S0 K) (.inl "int") && (kitB (S0 K) (.inl "tuple") && (excsB (S0 K) (["NoCell", "NoColumn", "NoBlock", "NoName"] : List Str) (.inr "Endless") && (excsB (S0 K) (["NoCell", "NoColumn", "NoBlock", "NoName"] : List Str) (.inr "Gone") && (excsB (S0 K) (["NoCell", "NoColumn", "NoBlock", "NoName"] : List Str) (.inr "NoArea") && (excsB (S0 K) (["NoCell", "NoColumn", "NoBlock", "NoName"] : List Str) (.inr "NoBlock") && (excsB (S0 K) (["NoCell", "NoColumn", "NoBlock", "NoName"] : List Str) (.inr "NoCell") && (excsB (S0 K) (["NoCell", "NoColumn", "NoBlock", "NoName"] : List Str) (.inr "NoChange") && (excsB (S0 K) (["NoCell", "NoColumn", "NoBlock", "NoName"] : List Str) (.inr "NoColumn") && (excsB (S0 K) (["NoCell", "NoColumn", "NoBlock", "NoName"] : List Str) (.inr "NoManner") && (excsB (S0 K) (["NoCell", "NoColumn", "NoBlock", "NoName"] : List Str) (.inr "NoName") && (excsB (S0 K) (["NoCell", "NoColumn", "NoBlock", "NoName"] : List Str) (.inr "NoNumber") && (excsB (S0 K) (["NoCell", "NoColumn", "NoBlock", "NoName"] : List Str) (.inr "NoOrder") && (excsB (S0 K) (["NoCell", "NoColumn", "NoBlock", "NoName"] : List Str) (.inr "NoPlace") && (excsB (S0 K) (["NoCell", "NoColumn", "NoBlock", "NoName"] : List Str) (.inr "NoRow") && (excsB (S0 K) (["NoCell", "NoColumn", "NoBlock", "NoName"] : List Str) (.inr "NoSheet") && (excsB (S0 K) (["NoCell", "NoColumn", "NoBlock", "NoName"] : List Str) (.inr "NoText") && (excsB (S0 K) (["NoCell", "NoColumn", "NoBlock", "NoName"] : List Str) (.inr "NoValue") && (excsB (S0 K) (["NoCell", "NoColumn", "NoBlock", "NoName"] : List Str) (.inr "NoWord") && (excsB (S0 K) (["NoCell", "NoColumn", "NoBlock", "NoName"] : List Str) (.inr "Ring") && (excsB (S0 K) (["NoCell", "NoColumn", "NoBlock", "NoName"] : List Str) (.inr "Unknown") && (excsB (S0 K) (["NoCell", "NoColumn", "NoBlock", "NoName"] : List Str) (.inl "ValueError") && (exmB (S0 K) (["NoCell", "NoColumn", "NoBlock", "NoName"] : List Str) "CellError" && (He.tupB K "MANNERS" [.str "letters", .str "numbers"] && (nfB (S0 K) "Block" && (nfB (S0 K) "Name" && (neB (S0 K) "Block" && (neB (S0 K) "Name"))))))))))))))))))))))))))))))))
def nms0 : List Str := ["_wall", "CellError", "NoCell", "NoColumn", "NoBlock", "NoArea", "NoNumber", "NoName", "NoManner", "NoChange", "NoWord", "NoOrder", "Endless", "NoPlace", "NoValue", "NoSheet", "NoRow", "NoText", "Gone", "Unknown", "Ring", "is_whole", "is_count", "is_cell", "checked_cell", "LETTERS", "letters_of", "is_end", "is_rows", "is_columns"]
def nms1 : List Str := ["letters_ahead", "by_ends", "Block", "row_text", "column_text", "MANNERS", "are_marks", "may_be", "fast_text", "far_text", "numbers_beside", "checked_manner", "Name", "_law_cell_at", "_law_well", "_law_draw", "_law_word", "_law_number", "_law_last", "_law_block", "_law_is_rows", "_law_is_columns", "_law_is_cell", "_law_marks", "_law_may", "_law_tried", "_law_all_ways", "_law_bad", "_law_others_refused"]
def nms : List Str := nms0 ++ (nms1)
abbrev R : PySem.W.OpenRow := PySem.W.OpenLaw.row PySem.Challenge.rw_cellblocks_k21_names_made
abbrev hk : PySem.W.Hook := hookX 4 chk fas fns
def ob (s : PySem.W.SharedT) : AlX := obsXG 4 chk fas fns (HandSHeadRun.getT s)
theorem run (w : World) : HandSHeadRun.RunEq R (PySem.W.view R.prog [65]) hk ob 16000 nms w := by
  intro os
  kernel_rfl
end K21
set_option Elab.async false
set_option linter.all false
set_option maxRecDepth 100000
/-! A small interpreter's data: what a Python value is worth (D), the cells that may change (M), and how both lie in the layer's heap. -/
namespace DL
open PySem PySem.Spec PyProof.Rows L2
structure Cf where
  io : List Addr
  F : Hp
  H : Hp
def Ex (H H' : Hp) : Prop := ∀ a o, H a = some o → H' a = some o
theorem Ex.refl (H : Hp) : Ex H H := fun _ _ h => h
theorem Ex.trans {H H1 H2 : Hp} (a : Ex H H1) (b : Ex H1 H2) : Ex H H2 := fun x o h => b x o (a x o h)
theorem Ex.new {H : Hp} {p : Addr} {o : HO} (h : H p = none) : Ex H (upd H p o) := fun a u e => by
  rw [upd_ne (ne_of_none e h)]
  exact e
theorem Ex.back {H H' : Hp} {p : Addr} (e : Ex H H') (h : H' p = none) : H p = none := by
  cases h1 : H p with
  | none => rfl
  | some o => rw [e p o h1] at h; cases h
theorem Ex.upd {F H : Hp} {p : Addr} {o : HO} (e : Ex F H) : Ex (L2.upd F p o) (L2.upd H p o) := fun a u h => by
  by_cases q : a = p
  · subst q; rw [upd_same] at h ⊢; exact h
  · rw [upd_ne q] at h ⊢; exact e a u h
theorem Ex.updR {F H : Hp} {p : Addr} {o : HO} (e : Ex F H) (h : F p = none) : Ex F (L2.upd H p o) := fun a u q => by
  rw [upd_ne (ne_of_none q h)]; exact e a u q
theorem ex_rd {H H' : Hp} {a : Addr} {u : HO} (e : Ex H H') (h : Rd H a u) : Rd H' a u := by
  rcases h with h | ⟨o, h⟩
  · exact Or.inl (e a _ h)
  · exact Or.inr ⟨o, e a _ h⟩
theorem ex_l {K : PySem.W.Frag} {H H' : Hp} {a : Addr} {xs : List V} (e : Ex H H') (h : SqL K H a xs) : SqL K H' a xs := by
  rcases h with h | h
  · exact Or.inl (ex_rd e h)
  · exact Or.inr h
theorem ex_t {K : PySem.W.Frag} {H H' : Hp} {a : Addr} {xs : List V} (e : Ex H H') (h : SqT K H a xs) : SqT K H' a xs := by
  rcases h with h | h
  · exact Or.inl (ex_rd e h)
  · exact Or.inr h
theorem sq_of {K : PySem.W.Frag} {H : Hp} {a : Addr} {xs : List V} (h : H a = some (.lst xs)) : SqL K H a xs := Or.inl (Or.inl h)
theorem st_of {K : PySem.W.Frag} {H : Hp} {a : Addr} {xs : List V} (h : H a = some (.tup xs)) : SqT K H a xs := Or.inl (Or.inl h)
/-! ### how a datum lies in the heap -/
mutual
theorem rep.mono {S : Sx} {io io' : List Addr} {F F' : Hp} (hi : io <+: io') (e : Ex F F') : ∀ (d : D) {v : V}, rep S io F d v → rep S io' F' d v
  | .non, _, h => by unfold rep at h ⊢; exact h
  | .bl b, _, h => by unfold rep at h ⊢; exact h
  | .int i, _, h => by unfold rep at h ⊢; exact h
  | .str s, _, h => by unfold rep at h ⊢; exact h
  | .ty n, _, h => by unfold rep at h ⊢; exact h
  | .glo x, _, h => by unfold rep at h ⊢; exact h
  | .tup l, _, h => by
    unfold rep at h ⊢
    obtain ⟨a, xs, h1, h2, h3⟩ := h
    exact ⟨a, xs, h1, ex_t e h2, reps.mono hi e l h3⟩
  | .lst l, _, h => by
    unfold rep at h ⊢
    obtain ⟨a, xs, h1, h2, h3⟩ := h
    exact ⟨a, xs, h1, e _ _ h2, reps.mono hi e l h3⟩
  | .scr ns, _, h => by
    unfold rep at h ⊢
    obtain ⟨a, h1, h2⟩ := h
    exact ⟨a, h1, ex_l e h2⟩
  | .dct ks l, _, h => by
    unfold rep at h ⊢
    obtain ⟨a, xs, h1, h2, h3, h4⟩ := h
    exact ⟨a, xs, h1, e _ _ h2, h3, reps.mono hi e l h4⟩
  | .obj c ns l, _, h => by
    unfold rep at h ⊢
    obtain ⟨a, dx, fs, h1, h2, h3, h4, h5⟩ := h
    exact ⟨a, dx, fs, h1, e _ _ h2, h3, reps.mono hi e l h4, h5⟩
  | .cel i, _, h => by
    unfold rep at h ⊢
    obtain ⟨a, h1, h2⟩ := h
    obtain ⟨z, rfl⟩ := hi
    refine ⟨a, h1, ?_⟩
    rw [List.getElem?_append_left (List.getElem?_eq_some_iff.mp h2).1]
    exact h2
  | .exc c ns l, _, h => by
    unfold rep at h ⊢
    obtain ⟨a, oe, d, h1, h2, h3, h4, h5⟩ := h
    refine ⟨a, oe, d, h1, h2, h3, h4, ?_⟩
    rcases h5 with h5 | ⟨dd, fs, h5, h6, h7, h8⟩
    · exact Or.inl h5
    · exact Or.inr ⟨dd, fs, h5, e _ _ h6, h7, reps.mono hi e l h8⟩
  | .txt, _, h => by unfold rep at h ⊢; exact h
theorem reps.mono {S : Sx} {io io' : List Addr} {F F' : Hp} (hi : io <+: io') (e : Ex F F') : ∀ (l : List D) {xs : List V}, reps S io F l xs → reps S io' F' l xs
  | [], _, h => by unfold reps at h ⊢; exact h
  | d :: l, _, h => by
    unfold reps at h ⊢
    obtain ⟨x, r, h1, h2, h3⟩ := h
    exact ⟨x, r, h1, rep.mono hi e d h2, reps.mono hi e l h3⟩
end
section
variable {S : Sx} {io : List Addr} {F : Hp}
theorem reps.len : ∀ {l : List D} {xs : List V}, reps S io F l xs → l.length = xs.length
  | [], _, h => by unfold reps at h; rw [h]; rfl
  | d :: l, _, h => by
    unfold reps at h
    obtain ⟨x, r, rfl, _, h3⟩ := h
    rw [List.length_cons, List.length_cons, reps.len h3]
theorem reps.get : ∀ {l : List D} {xs : List V} {i : Nat} {d : D}, reps S io F l xs → l[i]? = some d → ∃ x, xs[i]? = some x ∧ rep S io F d x
  | [], _, _, _, _, e => by simp at e
  | d :: l, _, 0, _, h, e => by
    obtain ⟨x, r, rfl, h2, _⟩ := h.uncons
    simp at e; subst e
    exact ⟨x, rfl, h2⟩
  | d :: l, _, i + 1, _, h, e => by
    obtain ⟨x, r, rfl, _, h3⟩ := h.uncons
    simpa using reps.get (i := i) h3 (by simpa using e)
theorem reps.getV : ∀ {l : List D} {xs : List V} {i : Nat} {x : V}, reps S io F l xs → xs[i]? = some x → ∃ d, l[i]? = some d ∧ rep S io F d x
  | [], _, _, _, h, e => by rw [h.eq_nil] at e; simp at e
  | d :: l, _, 0, _, h, e => by
    obtain ⟨x, r, rfl, h2, _⟩ := h.uncons
    simp at e; subst e
    exact ⟨d, rfl, h2⟩
  | d :: l, _, i + 1, _, h, e => by
    obtain ⟨x, r, rfl, _, h3⟩ := h.uncons
    simpa using reps.getV (i := i) h3 (by simpa using e)
theorem reps.append : ∀ {l l' : List D} {xs ys : List V}, reps S io F l xs → reps S io F l' ys → reps S io F (l ++ l') (xs ++ ys)
  | [], _, _, _, h, h' => by rw [h.eq_nil]; exact h'
  | d :: l, _, _, _, h, h' => by
    obtain ⟨x, r, rfl, h2, h3⟩ := h.uncons
    exact .cons h2 (reps.append h3 h')
theorem reps.drop : ∀ {l : List D} {xs : List V} (n : Nat), reps S io F l xs → reps S io F (l.drop n) (xs.drop n)
  | _, _, 0, h => h
  | [], _, _ + 1, h => by rw [h.eq_nil]; exact .nil
  | d :: l, _, n + 1, h => by
    obtain ⟨x, r, rfl, _, h3⟩ := h.uncons
    exact reps.drop n h3
theorem reps.set {d : D} {x : V} (hd : rep S io F d x) : ∀ {l : List D} {xs : List V} (i : Nat), reps S io F l xs → reps S io F (l.set i d) (xs.set i x)
  | [], _, _, h => by rw [h.eq_nil]; exact .nil
  | e :: l, _, 0, h => by
    obtain ⟨y, r, rfl, h2, h3⟩ := h.uncons
    exact .cons hd h3
  | e :: l, _, i + 1, h => by
    obtain ⟨y, r, rfl, h2, h3⟩ := h.uncons
    exact .cons h2 (reps.set hd i h3)
theorem reps.reverse : ∀ {l : List D} {xs : List V}, reps S io F l xs → reps S io F l.reverse xs.reverse
  | [], _, h => by rw [h.eq_nil]; exact .nil
  | d :: l, _, h => by
    obtain ⟨x, r, rfl, h2, h3⟩ := h.uncons
    rw [List.reverse_cons, List.reverse_cons]
    exact (reps.reverse h3).append (.cons h2 .nil)
end
/-! ### a state -/
def cellOk (S : Sx) (c : Cf) (a : Addr) : M → Prop
  | .lst l => c.F a = none ∧ ∃ xs, c.H a = some (.lst xs) ∧ reps S c.io c.F l xs
  | .dct ks l => c.F a = none ∧ ∃ kvs, c.H a = some (.dK kvs) ∧ kvs.map (·.1) = ks ∧ reps S c.io c.F l (kvs.map (·.2))
  | .obj x ns l => c.F a = none ∧ ∃ dx fs, c.H a = some (.ins (S.A x) dx fs) ∧ fs.map (·.1) = ns ∧ reps S c.io c.F l (fs.map (·.2))
  | .dead => ∃ o, c.H a = some o
structure SI (S : Sx) (c : Cf) (μ : List M) : Prop where
  ex : Ex c.F c.H
  len : c.io.length = μ.length
  nd : c.io.Nodup
  cell : ∀ (i : Nat) (a : Addr) (m : M), c.io[i]? = some a → μ[i]? = some m → cellOk S c a m
  cls : ∀ (i : Nat) (x : Str) (ns : List Str) (l : List D), μ[i]? = some (.obj x ns l) → x ∈ S.cls
theorem cellOk.there {S : Sx} {c : Cf} {a : Addr} {m : M} (h : cellOk S c a m) : ∃ o, c.H a = some o := by
  cases m with
  | lst l => obtain ⟨_, xs, h, _⟩ := h; exact ⟨_, h⟩
  | dct ks l => obtain ⟨_, xs, h, _⟩ := h; exact ⟨_, h⟩
  | obj x ns l => obtain ⟨_, dx, fs, h, _⟩ := h; exact ⟨_, h⟩
  | dead => exact h
theorem SI.there {S : Sx} {c : Cf} {μ : List M} (h : SI S c μ) {a : Addr} (m : a ∈ c.io) : ∃ o, c.H a = some o := by
  obtain ⟨i, hi, e⟩ := List.getElem_of_mem m
  have h1 : c.io[i]? = some a := by rw [List.getElem?_eq_getElem hi, e]
  have hm : i < μ.length := by rw [← h.len]; exact hi
  exact (h.cell i a _ h1 (List.getElem?_eq_getElem hm)).there
/-- a state behind another one -/
structure Step (S : Sx) (c c' : Cf) : Prop where
  pre : c.io <+: c'.io
  nd : c'.io.Nodup
  exF : Ex c.F c'.F
  frz : ∀ p, c.H p ≠ none → c.F p = none → c'.F p ≠ none → ∃ i, S.n0 ≤ i ∧ c.io[i]? = some p
  keep : ∀ p o, c.H p = some o → p ∉ c.io → c'.H p = some o
  new : ∀ p, p ∈ c'.io → p ∉ c.io → c.H p = none
  som : ∀ p, c.H p ≠ none → c'.H p ≠ none
theorem Step.rfl' {S : Sx} {c : Cf} (n : c.io.Nodup) : Step S c c :=
  ⟨List.prefix_refl _, n, Ex.refl _, fun _ _ h h' => absurd h h', fun _ _ h _ => h, fun _ h h' => absurd h h', fun _ h => h⟩
theorem SI.step {S : Sx} {c : Cf} {μ : List M} (I : SI S c μ) : Step S c c := Step.rfl' I.nd
theorem nodup_at {l : List Addr} (n : l.Nodup) {i j : Nat} {p : Addr} (h1 : l[i]? = some p) (h2 : l[j]? = some p) : i = j := by
  obtain ⟨a, b⟩ := List.getElem?_eq_some_iff.mp h1
  obtain ⟨c, d⟩ := List.getElem?_eq_some_iff.mp h2
  exact (List.getElem_inj n).mp (b.trans d.symm)
theorem Step.trans {S : Sx} {c c1 c2 : Cf} (a : Step S c c1) (b : Step S c1 c2) : Step S c c2 := by
  refine ⟨a.pre.trans b.pre, b.nd, a.exF.trans b.exF, fun p h1 h2 h3 => ?_, fun p o h1 h2 => ?_, fun p h1 h2 => ?_, fun p h => b.som p (a.som p h)⟩
  · cases e : c1.F p with
    | some o => exact a.frz p h1 h2 (by rw [e]; exact fun z => nomatch z)
    | none =>
      obtain ⟨i, hi, e1⟩ := b.frz p (a.som p h1) e h3
      by_cases hm : p ∈ c.io
      · obtain ⟨z, ez⟩ := a.pre
        obtain ⟨j, hj, ej⟩ := List.getElem_of_mem hm
        have e2 : c1.io[j]? = some p := by
          rw [← ez, List.getElem?_append_left hj, List.getElem?_eq_getElem hj, ej]
        have e3 := nodup_at a.nd e1 e2
        subst e3
        exact ⟨i, hi, by rw [List.getElem?_eq_getElem hj, ej]⟩
      · exact absurd (a.new p (List.mem_of_getElem? e1) hm) h1
  · refine b.keep p o (a.keep p o h1 h2) fun hm => ?_
    have := a.new p hm h2
    rw [h1] at this; cases this
  · by_cases hm : p ∈ c1.io
    · exact a.new p hm h2
    · have := b.new p h1 hm
      cases e : c.H p with
      | none => rfl
      | some o => exact absurd this (a.som p (by rw [e]; exact fun z => nomatch z))
theorem Step.rep {S : Sx} {c c' : Cf} (s : Step S c c') {d : D} {v : V} (h : rep S c.io c.F d v) : rep S c'.io c'.F d v := rep.mono s.pre s.exF d h
theorem Step.reps {S : Sx} {c c' : Cf} (s : Step S c c') {l : List D} {xs : List V} (h : reps S c.io c.F l xs) : reps S c'.io c'.F l xs := reps.mono s.pre s.exF l h
/-- a new object that never changes -/
theorem SI.fresh {S : Sx} {c : Cf} {μ : List M} (I : SI S c μ) {p : Addr} {o : HO} (hp : c.H p = none) :
    SI S ⟨c.io, upd c.F p o, upd c.H p o⟩ μ ∧ Step S c ⟨c.io, upd c.F p o, upd c.H p o⟩ := by
  have fp : c.F p = none := I.ex.back hp
  have ne : ∀ a, a ∈ c.io → a ≠ p := fun a m z => by
    obtain ⟨o, h⟩ := I.there m
    rw [z, hp] at h; cases h
  refine ⟨⟨I.ex.upd, I.len, I.nd, fun i a m h1 h2 => ?_, I.cls⟩, ⟨List.prefix_refl _, I.nd, Ex.new fp, fun q h1 h2 h3 => ?_, fun q u h1 h2 => ?_, fun q h1 h2 => absurd h1 h2, fun q h => ?_⟩⟩
  · have nep := ne a (List.mem_of_getElem? h1)
    have k := I.cell i a m h1 h2
    cases m with
    | lst l =>
      obtain ⟨k1, xs, k2, k3⟩ := k
      exact ⟨(upd_ne nep).trans k1, xs, (upd_ne nep).trans k2, reps.mono (List.prefix_refl _) (Ex.new fp) l k3⟩
    | dct ks l =>
      obtain ⟨k1, xs, k2, k3, k4⟩ := k
      exact ⟨(upd_ne nep).trans k1, xs, (upd_ne nep).trans k2, k3, reps.mono (List.prefix_refl _) (Ex.new fp) l k4⟩
    | obj x ns l =>
      obtain ⟨k1, dx, fs, k2, k3, k4⟩ := k
      exact ⟨(upd_ne nep).trans k1, dx, fs, (upd_ne nep).trans k2, k3, reps.mono (List.prefix_refl _) (Ex.new fp) l k4⟩
    | dead =>
      obtain ⟨u, k⟩ := k
      exact ⟨u, (upd_ne nep).trans k⟩
  · by_cases e : q = p
    · rw [e] at h1; exact absurd hp h1
    · have h3' : upd c.F p o q ≠ none := h3
      rw [upd_ne e] at h3'
      exact absurd h2 h3'
  · exact Ex.new hp q u h1
  · by_cases e : q = p
    · rw [e] at h; exact absurd hp h
    · show upd c.H p o q ≠ none
      rw [upd_ne e]; exact h
/-- a new cell -/
theorem SI.alloc {S : Sx} {c : Cf} {μ : List M} (I : SI S c μ) {p : Addr} {o : HO} {m : M} (hp : c.H p = none)
    (hm : ∀ io, c.io <+: io → cellOk S ⟨io, c.F, upd c.H p o⟩ p m) (hcl : ∀ (x : Str) (ns : List Str) (l : List D), m = .obj x ns l → x ∈ S.cls := by intro _ _ _ e; cases e) :
    SI S ⟨c.io ++ [p], c.F, upd c.H p o⟩ (μ ++ [m]) ∧ Step S c ⟨c.io ++ [p], c.F, upd c.H p o⟩ := by
  have fp : c.F p = none := I.ex.back hp
  have ne : ∀ a, a ∈ c.io → a ≠ p := fun a m z => by
    obtain ⟨o, h⟩ := I.there m
    rw [z, hp] at h; cases h
  have pre : c.io <+: c.io ++ [p] := List.prefix_append _ _
  have nd : (c.io ++ [p]).Nodup := List.nodup_append.mpr ⟨I.nd, by simp, fun a ha b hb => by
    have : b = p := by simpa using hb
    rw [this]; exact ne a ha⟩
  refine ⟨⟨I.ex.updR fp, by rw [List.length_append, List.length_append, I.len]; rfl, nd, fun i a m' h1 h2 => ?_, fun i x ns l h => ?_⟩, ⟨pre, nd, Ex.refl _, fun q h1 h2 h3 => absurd h2 h3, fun q u h1 h2 => ?_, fun q h1 h2 => ?_, fun q h => ?_⟩⟩
  · by_cases hi : i < c.io.length
    · have h1' : c.io[i]? = some a := by
        have h1 : (c.io ++ [p])[i]? = some a := h1
        rw [List.getElem?_append_left hi] at h1; exact h1
      have h2' : μ[i]? = some m' := by
        rw [List.getElem?_append_left (by rw [← I.len]; exact hi)] at h2; exact h2
      have nep := ne a (List.mem_of_getElem? h1')
      have k := I.cell i a m' h1' h2'
      cases m' with
      | lst l =>
        obtain ⟨k1, xs, k2, k3⟩ := k
        exact ⟨k1, xs, (upd_ne nep).trans k2, reps.mono pre (Ex.refl _) l k3⟩
      | dct ks l =>
        obtain ⟨k1, xs, k2, k3, k4⟩ := k
        exact ⟨k1, xs, (upd_ne nep).trans k2, k3, reps.mono pre (Ex.refl _) l k4⟩
      | obj x ns l =>
        obtain ⟨k1, dx, fs, k2, k3, k4⟩ := k
        exact ⟨k1, dx, fs, (upd_ne nep).trans k2, k3, reps.mono pre (Ex.refl _) l k4⟩
      | dead =>
        obtain ⟨u, k⟩ := k
        exact ⟨u, (upd_ne nep).trans k⟩
    · have h1 : (c.io ++ [p])[i]? = some a := h1
      have hl : i < (c.io ++ [p]).length := (List.getElem?_eq_some_iff.mp h1).1
      rw [List.length_append] at hl
      have ei : i = c.io.length := by
        have : [p].length = 1 := rfl
        omega
      have e1 : a = p := by
        rw [ei, List.getElem?_append_right (Nat.le_refl _), Nat.sub_self] at h1
        simpa using h1.symm
      have e2 : m' = m := by
        rw [ei, I.len, List.getElem?_append_right (Nat.le_refl _), Nat.sub_self] at h2
        simpa using h2.symm
      rw [e1, e2]
      exact hm _ pre
  · by_cases hi : i < μ.length
    · rw [List.getElem?_append_left hi] at h
      exact I.cls i x ns l h
    · have hl : i < (μ ++ [m]).length := (List.getElem?_eq_some_iff.mp h).1
      rw [List.length_append] at hl
      have ei : i = μ.length := by
        have : [m].length = 1 := rfl
        omega
      rw [ei, List.getElem?_append_right (Nat.le_refl _), Nat.sub_self] at h
      exact hcl x ns l (by simpa using h)
  · exact Ex.new hp q u h1
  · have : q = p := by
      rcases List.mem_append.mp (show q ∈ c.io ++ [p] from h1) with h | h
      · exact absurd h h2
      · simpa using h
    rw [this]; exact hp
  · by_cases e : q = p
    · rw [e] at h; exact absurd hp h
    · show upd c.H p o q ≠ none
      rw [upd_ne e]; exact h
/-- a cell is changed -/
theorem SI.write {S : Sx} {c : Cf} {μ : List M} (I : SI S c μ) {i : Nat} {p : Addr} {o : HO} {m : M} (hi : c.io[i]? = some p) (fp : c.F p = none)
    (hm : cellOk S ⟨c.io, c.F, upd c.H p o⟩ p m) (hcl : ∀ (x : Str) (ns : List Str) (l : List D), m = .obj x ns l → x ∈ S.cls := by intro _ _ _ e; cases e) : SI S ⟨c.io, c.F, upd c.H p o⟩ (μ.set i m) ∧ Step S c ⟨c.io, c.F, upd c.H p o⟩ := by
  refine ⟨⟨I.ex.updR fp, by rw [List.length_set]; exact I.len, I.nd, fun j a m' h1 h2 => ?_, fun j x ns l h => ?_⟩, ⟨List.prefix_refl _, I.nd, Ex.refl _, fun q h1 h2 h3 => absurd h2 h3, fun q u h1 h2 => ?_, fun q h1 h2 => absurd h1 h2, fun q h => ?_⟩⟩
  · by_cases e : j = i
    · subst e
      have ea : a = p := by
        have h1 : c.io[j]? = some a := h1
        rw [hi] at h1; exact (Option.some.inj h1).symm
      have hl : j < μ.length := by rw [← I.len]; exact (List.getElem?_eq_some_iff.mp hi).1
      rw [List.getElem?_set_self hl] at h2
      rw [ea, ← Option.some.inj h2]; exact hm
    · rw [List.getElem?_set_ne (Ne.symm e)] at h2
      have nep : a ≠ p := fun z => by
        subst z
        exact e (nodup_at I.nd h1 hi)
      have k := I.cell j a m' h1 h2
      cases m' with
      | lst l =>
        obtain ⟨k1, xs, k2, k3⟩ := k
        exact ⟨k1, xs, (upd_ne nep).trans k2, k3⟩
      | dct ks l =>
        obtain ⟨k1, xs, k2, k3, k4⟩ := k
        exact ⟨k1, xs, (upd_ne nep).trans k2, k3, k4⟩
      | obj x ns l =>
        obtain ⟨k1, dx, fs, k2, k3, k4⟩ := k
        exact ⟨k1, dx, fs, (upd_ne nep).trans k2, k3, k4⟩
      | dead =>
        obtain ⟨u, k⟩ := k
        exact ⟨u, (upd_ne nep).trans k⟩
  · by_cases e : j = i
    · subst e
      have hl : j < μ.length := by rw [← I.len]; exact (List.getElem?_eq_some_iff.mp hi).1
      rw [List.getElem?_set_self hl] at h
      exact hcl x ns l (Option.some.inj h)
    · rw [List.getElem?_set_ne (Ne.symm e)] at h
      exact I.cls j x ns l h
  · have ne : q ≠ p := fun z => h2 (by rw [z]; exact List.mem_of_getElem? hi)
    exact (upd_ne ne).trans h1
  · show upd c.H p o q ≠ none
    by_cases e : q = p
    · rw [e, upd_same]; exact fun z => nomatch z
    · rw [upd_ne e]; exact h
end DL
namespace DL
open PySem PySem.Spec PyProof.Rows L2
abbrev St := L2.St
abbrev DS := En → List M → SO
structure EnvOk (S : Sx) (c : Cf) (env : En) (σ : St) : Prop where
  len : env.length = σ.length
  at_ : ∀ (i : Nat) (d : D), env[i]? = some (some d) → ∃ v, σ[i]? = some (some v) ∧ rep S c.io c.F d v
theorem EnvOk.step {S : Sx} {c c' : Cf} {env : En} {σ : St} (s : Step S c c') (h : EnvOk S c env σ) : EnvOk S c' env σ :=
  ⟨h.len, fun i d e => by
    obtain ⟨v, h1, h2⟩ := h.at_ i d e
    exact ⟨v, h1, s.rep h2⟩⟩
theorem EnvOk.set {S : Sx} {c : Cf} {env : En} {σ : St} {d : D} {v : V} (h : EnvOk S c env σ) (r : rep S c.io c.F d v) (i : Nat) : EnvOk S c (env.set i (some d)) (σ.set i (some v)) :=
  ⟨by rw [List.length_set, List.length_set]; exact h.len, fun j e q => by
    by_cases z : j = i
    · subst z
      have hl : j < env.length := by
        have := (List.getElem?_eq_some_iff.mp q).1
        rwa [List.length_set] at this
      rw [List.getElem?_set_self hl] at q
      have : e = d := (Option.some.inj (Option.some.inj q)).symm
      subst this
      exact ⟨v, by rw [List.getElem?_set_self (by rw [← h.len]; exact hl)], r⟩
    · rw [List.getElem?_set_ne (Ne.symm z)] at q
      obtain ⟨u, h1, h2⟩ := h.at_ j e q
      exact ⟨u, by rw [List.getElem?_set_ne (Ne.symm z)]; exact h1, h2⟩⟩
theorem EnvOk.del {S : Sx} {c : Cf} {env : En} {σ : St} (h : EnvOk S c env σ) (i : Nat) : EnvOk S c (env.set i none) (σ.set i none) :=
  ⟨by rw [List.length_set, List.length_set]; exact h.len, fun j e q => by
    by_cases z : j = i
    · subst z
      have hl : j < env.length := by
        have := (List.getElem?_eq_some_iff.mp q).1
        rwa [List.length_set] at this
      rw [List.getElem?_set_self hl] at q
      cases q
    · rw [List.getElem?_set_ne (Ne.symm z)] at q
      obtain ⟨u, h1, h2⟩ := h.at_ j e q
      exact ⟨u, by rw [List.getElem?_set_ne (Ne.symm z)]; exact h1, h2⟩⟩
/-- an exception's own dict -/
def xrep (S : Sx) (c : Cf) (ns : List Str) (l : List D) (dd : Option Addr) : Prop :=
  (ns = [] ∧ l = [] ∧ dd = none) ∨ ∃ a fs, dd = some a ∧ c.F a = some (.xd fs) ∧ fs.map (·.1) = ns ∧ reps S c.io c.F l (fs.map (·.2))
def XQ (S : Sx) (W : WX) (σ : St) (c : Cf) (x : Str) (ns : List Str) (l : List D) (μ : List M) : Prop :=
  ∀ dd c', Step S c c' → SI S c' μ → xrep S c' ns l dd → W (.ref (S.A x)) dd σ c'.H
def EQ (S : Sx) (W : WX) (σ : St) (c : Cf) (Q : VK) : Out D → Prop
  | .ok d μ => ∀ v c', Step S c c' → SI S c' μ → rep S c'.io c'.F d v → Q v c'.H
  | .ex x ns l μ => XQ S W σ c x ns l μ
  | .stuck => False
def TQ (S : Sx) (W : WX) (σ : St) (c : Cf) (Q : Bool → Hp → Prop) : Out Bool → Prop
  | .ok b μ => ∀ c', Step S c c' → SI S c' μ → Q b c'.H
  | .ex x ns l μ => XQ S W σ c x ns l μ
  | .stuck => False
def AQ (S : Sx) (W : WX) (σ : St) (c : Cf) (Q : List V → Hp → Prop) : Out (List D) → Prop
  | .ok l μ => ∀ vs c', Step S c c' → SI S c' μ → reps S c'.io c'.F l vs → Q vs c'.H
  | .ex x ns l μ => XQ S W σ c x ns l μ
  | .stuck => False
def SQ (S : Sx) (W : WX) (c : Cf) (En : Ends) : SO → Prop
  | .nx e μ => ∀ σ' c', Step S c c' → SI S c' μ → EnvOk S c' e σ' → En.nx σ' c'.H
  | .bk e μ => ∀ σ' c', Step S c c' → SI S c' μ → EnvOk S c' e σ' → En.bk σ' c'.H
  | .ct e μ => ∀ σ' c', Step S c c' → SI S c' μ → EnvOk S c' e σ' → En.ct σ' c'.H
  | .rt d μ => ∀ v c', Step S c c' → SI S c' μ → rep S c'.io c'.F d v → En.rt v c'.H
  | .ex x ns l e μ => ∀ dd σ' c', Step S c c' → SI S c' μ → EnvOk S c' e σ' → xrep S c' ns l dd → W (.ref (S.A x)) dd σ' c'.H
  | .stuck => False
section
variable {S : Sx} {W : WX} {σ : St} {c c1 : Cf}
theorem XQ.step {x : Str} {ns : List Str} {l : List D} {μ : List M} (s : Step S c c1) (h : XQ S W σ c x ns l μ) : XQ S W σ c1 x ns l μ := fun dd c' s' => h dd c' (s.trans s')
theorem EQ.step {Q : VK} (s : Step S c c1) : ∀ {o : Out D}, EQ S W σ c Q o → EQ S W σ c1 Q o
  | .ok _ _, h => fun v c' s' => h v c' (s.trans s')
  | .ex _ _ _ _, h => XQ.step s h
  | .stuck, h => h
theorem TQ.step {Q : Bool → Hp → Prop} (s : Step S c c1) : ∀ {o : Out Bool}, TQ S W σ c Q o → TQ S W σ c1 Q o
  | .ok _ _, h => fun c' s' => h c' (s.trans s')
  | .ex _ _ _ _, h => XQ.step s h
  | .stuck, h => h
theorem AQ.step {Q : List V → Hp → Prop} (s : Step S c c1) : ∀ {o : Out (List D)}, AQ S W σ c Q o → AQ S W σ c1 Q o
  | .ok _ _, h => fun v c' s' => h v c' (s.trans s')
  | .ex _ _ _ _, h => XQ.step s h
  | .stuck, h => h
theorem SQ.step {E : Ends} (s : Step S c c1) : ∀ {o : SO}, SQ S W c E o → SQ S W c1 E o
  | .nx _ _, h => fun v c' s' => h v c' (s.trans s')
  | .bk _ _, h => fun v c' s' => h v c' (s.trans s')
  | .ct _ _, h => fun v c' s' => h v c' (s.trans s')
  | .rt _ _, h => fun v c' s' => h v c' (s.trans s')
  | .ex _ _ _ _ _, h => fun d v c' s' => h d v c' (s.trans s')
  | .stuck, h => h
end
structure PDE (X : Cx) (S : Sx) (W : WX) (e : Expr) (d : DE) : Prop where
  ex : ∃ t, PE X e t ∧ ∀ env σ c μ Q, SI S c μ → EnvOk S c env σ → EQ S W σ c Q (d env μ) → t σ c.H Q
structure PDT (X : Cx) (S : Sx) (W : WX) (e : Expr) (d : DT) : Prop where
  ex : ∃ t, PT X e t ∧ ∀ env σ c μ Q, SI S c μ → EnvOk S c env σ → TQ S W σ c Q (d env μ) → t σ c.H Q
structure PDW (X : Cx) (S : Sx) (W : WX) (e : Expr) (d : DT) : Prop where
  ex : ∃ t, PW X e t ∧ ∀ env σ c μ Q, SI S c μ → EnvOk S c env σ → TQ S W σ c Q (d env μ) → t σ c.H Q
structure PDA (X : Cx) (S : Sx) (W : WX) (es : List Expr) (d : DA) : Prop where
  ex : ∃ t, PA X es t ∧ ∀ env σ c μ Q, SI S c μ → EnvOk S c env σ → AQ S W σ c Q (d env μ) → t σ c.H Q
structure PDS (X : Cx) (S : Sx) (W : WX) (st : Stmt) (d : DS) : Prop where
  ex : ∃ t, PS X st t ∧ ∀ env σ c μ E, SI S c μ → EnvOk S c env σ → SQ S W c E (d env μ) → t E σ c.H
structure PDSs (X : Cx) (S : Sx) (W : WX) (st : List Stmt) (d : DS) : Prop where
  ex : ∃ t, PSs X st t ∧ ∀ env σ c μ E, SI S c μ → EnvOk S c env σ → SQ S W c E (d env μ) → t E σ c.H
section
variable {X : Cx} {S : Sx} {W : WX} {a b e : Expr} {es : List Expr} {da db d : DE} {pos : Pos} {k : Nat}
/-! ### the binds -/
theorem bindE {σ : St} {c : Cf} {Q : VK} {t : TE} {R : V → Hp → Prop} {o : Out D} {f : D → List M → Out D}
    (h : ∀ Q, EQ S W σ c Q o → t σ c.H Q) (k : EQ S W σ c Q (o.bind f)) (g : ∀ x μ v c', Step S c c' → SI S c' μ → rep S c'.io c'.F x v → EQ S W σ c' Q (f x μ) → R v c'.H) : t σ c.H R := by
  refine h _ ?_
  cases o with
  | ok x μ => exact fun v c' s I r => g x μ v c' s I r (EQ.step s k)
  | ex x ns l μ => exact k
  | stuck => exact k
theorem bindET {σ : St} {c : Cf} {Q : Bool → Hp → Prop} {t : TE} {R : V → Hp → Prop} {o : Out D} {f : D → List M → Out Bool}
    (h : ∀ Q, EQ S W σ c Q o → t σ c.H Q) (k : TQ S W σ c Q (o.bind f)) (g : ∀ x μ v c', Step S c c' → SI S c' μ → rep S c'.io c'.F x v → TQ S W σ c' Q (f x μ) → R v c'.H) : t σ c.H R := by
  refine h _ ?_
  cases o with
  | ok x μ => exact fun v c' s I r => g x μ v c' s I r (TQ.step s k)
  | ex x ns l μ => exact k
  | stuck => exact k
theorem bindEA {σ : St} {c : Cf} {Q : List V → Hp → Prop} {t : TE} {R : V → Hp → Prop} {o : Out D} {f : D → List M → Out (List D)}
    (h : ∀ Q, EQ S W σ c Q o → t σ c.H Q) (k : AQ S W σ c Q (o.bind f)) (g : ∀ x μ v c', Step S c c' → SI S c' μ → rep S c'.io c'.F x v → AQ S W σ c' Q (f x μ) → R v c'.H) : t σ c.H R := by
  refine h _ ?_
  cases o with
  | ok x μ => exact fun v c' s I r => g x μ v c' s I r (AQ.step s k)
  | ex x ns l μ => exact k
  | stuck => exact k
theorem bindAE {σ : St} {c : Cf} {Q : VK} {t : TA} {R : List V → Hp → Prop} {o : Out (List D)} {f : List D → List M → Out D}
    (h : ∀ Q, AQ S W σ c Q o → t σ c.H Q) (k : EQ S W σ c Q (o.bind f)) (g : ∀ x μ v c', Step S c c' → SI S c' μ → reps S c'.io c'.F x v → EQ S W σ c' Q (f x μ) → R v c'.H) : t σ c.H R := by
  refine h _ ?_
  cases o with
  | ok x μ => exact fun v c' s I r => g x μ v c' s I r (EQ.step s k)
  | ex x ns l μ => exact k
  | stuck => exact k
theorem bindAA {σ : St} {c : Cf} {Q : List V → Hp → Prop} {t : TA} {R : List V → Hp → Prop} {o : Out (List D)} {f : List D → List M → Out (List D)}
    (h : ∀ Q, AQ S W σ c Q o → t σ c.H Q) (k : AQ S W σ c Q (o.bind f)) (g : ∀ x μ v c', Step S c c' → SI S c' μ → reps S c'.io c'.F x v → AQ S W σ c' Q (f x μ) → R v c'.H) : t σ c.H R := by
  refine h _ ?_
  cases o with
  | ok x μ => exact fun v c' s I r => g x μ v c' s I r (AQ.step s k)
  | ex x ns l μ => exact k
  | stuck => exact k
theorem bindTT {σ : St} {c : Cf} {Q : Bool → Hp → Prop} {t : TT} {R : Bool → Hp → Prop} {o : Out Bool} {f : Bool → List M → Out Bool}
    (h : ∀ Q, TQ S W σ c Q o → t σ c.H Q) (k : TQ S W σ c Q (o.bind f)) (g : ∀ x μ c', Step S c c' → SI S c' μ → TQ S W σ c' Q (f x μ) → R x c'.H) : t σ c.H R := by
  refine h _ ?_
  cases o with
  | ok x μ => exact fun c' s I => g x μ c' s I (TQ.step s k)
  | ex x ns l μ => exact k
  | stuck => exact k
theorem bindES {σ : St} {c : Cf} {E : Ends} {env : En} {t : TE} {R : V → Hp → Prop} {o : Out D} {f : D → List M → SO}
    (en : EnvOk S c env σ) (h : ∀ Q, EQ S W σ c Q o → t σ c.H Q) (k : SQ S W c E (o.bindS env f)) (g : ∀ x μ v c', Step S c c' → SI S c' μ → rep S c'.io c'.F x v → SQ S W c' E (f x μ) → R v c'.H) : t σ c.H R := by
  refine h _ ?_
  cases o with
  | ok x μ => exact fun v c' s I r => g x μ v c' s I r (SQ.step s k)
  | ex x ns l μ => exact fun dd c' s I r => k dd σ c' s I (en.step s) r
  | stuck => exact k
theorem bindTS {σ : St} {c : Cf} {E : Ends} {env : En} {t : TT} {R : Bool → Hp → Prop} {o : Out Bool} {f : Bool → List M → SO}
    (en : EnvOk S c env σ) (h : ∀ Q, TQ S W σ c Q o → t σ c.H Q) (k : SQ S W c E (o.bindS env f)) (g : ∀ x μ c', Step S c c' → SI S c' μ → SQ S W c' E (f x μ) → R x c'.H) : t σ c.H R := by
  refine h _ ?_
  cases o with
  | ok x μ => exact fun c' s I => g x μ c' s I (SQ.step s k)
  | ex x ns l μ => exact fun dd c' s I r => k dd σ c' s I (en.step s) r
  | stuck => exact k
/-! ### names, constants -/
def dVar (i : Nat) : DE := fun env μ => match env[i]? with
  | some (some d) => .ok d μ
  | _ => .stuck
theorem of_tC {v : V} {x : D} (h : PE X e (tC v)) (r : ∀ io F, rep S io F x v) : PDE X S W e (dC x) :=
  ⟨_, h, fun env σ c μ Q I en q => q v c I.step I (r _ _)⟩
theorem pd_var {i : Nat} (h : PE X e (tVar i)) : PDE X S W e (dVar i) := by
  refine ⟨_, h, fun env σ c μ Q I en q => ?_⟩
  unfold dVar at q
  cases e1 : env[i]? with
  | none => rw [e1] at q; exact q.elim
  | some o =>
    rw [e1] at q
    cases o with
    | none => exact q.elim
    | some d =>
      obtain ⟨v, h1, h2⟩ := en.at_ i d e1
      exact ⟨v, h1, q v c I.step I h2⟩
theorem pd_int {i : Int} {j : Nat} : PDE X S W (.Constant (.int i) j pos) (dC (.int i)) := of_tC pe_int fun _ _ => by unfold rep; rfl
theorem pd_str {x : Str} {j : Nat} (h : okS x = true := by decide +kernel) : PDE X S W (.Constant (.str x) j pos) (dC (.str x)) := of_tC pe_str fun _ _ => by unfold rep; exact ⟨rfl, h⟩
theorem pd_bl {b : Bool} {j : Nat} : PDE X S W (.Constant (.bool b) j pos) (dC (.bl b)) := of_tC pe_bl fun _ _ => by unfold rep; rfl
theorem pd_non {j : Nat} : PDE X S W (.Constant .none j pos) (dC .non) := of_tC pe_non fun _ _ => by unfold rep; rfl
end
end DL
namespace DL
open PySem PySem.Spec PyProof.Rows L2
/-! ### what is read of a datum -/
def lstOf (μ : List M) : D → Option (List D)
  | .lst l => some l
  | .cel i => match μ[i]? with
    | some (.lst l) => some l
    | _ => none
  | _ => none
def seqOf (μ : List M) : D → Option (List D)
  | .tup l => some l
  | .lst l => some l
  | .cel i => match μ[i]? with
    | some (.lst l) => some l
    | _ => none
  | .scr ns => some (ns.map D.int)
  | _ => none
section
variable {S : Sx} {c : Cf} {μ : List M} {d : D} {v : V} {l : List D}
theorem rep_int {io : List Addr} {F : Hp} {i : Int} : rep S io F (.int i) v ↔ v = .int i := by unfold rep; exact Iff.rfl
theorem rep_bl {io : List Addr} {F : Hp} {i : Bool} : rep S io F (.bl i) v ↔ v = .bl i := by unfold rep; exact Iff.rfl
theorem rep_non {io : List Addr} {F : Hp} : rep S io F .non v ↔ v = .non := by unfold rep; exact Iff.rfl
theorem rep_str {io : List Addr} {F : Hp} {x : Str} : rep S io F (.str x) v ↔ v = .str x ∧ okS x = true := by unfold rep; exact Iff.rfl
theorem rep_ty {io : List Addr} {F : Hp} {x : String} : rep S io F (.ty x) v ↔ v = .ty x := by unfold rep; exact Iff.rfl
theorem rep_glo {io : List Addr} {F : Hp} {x : Str} : rep S io F (.glo x) v ↔ v = .ref (S.A x) := by unfold rep; exact Iff.rfl
theorem reps_ints {io : List Addr} {F : Hp} : ∀ (ns : List Int), reps S io F (ns.map D.int) (ns.map V.int)
  | [] => .nil
  | n :: ns => .cons (rep_int.mpr rfl) (reps_ints ns)
theorem lst_at (I : SI S c μ) (r : rep S c.io c.F d v) (h : lstOf μ d = some l) : ∃ a xs, v = .ref a ∧ c.H a = some (.lst xs) ∧ reps S c.io c.F l xs := by
  cases d with
  | lst l' =>
    unfold rep at r
    obtain ⟨a, xs, h1, h2, h3⟩ := r
    cases (show some l' = some l from h)
    exact ⟨a, xs, h1, I.ex _ _ h2, h3⟩
  | cel i =>
    unfold rep at r
    obtain ⟨a, h1, h2⟩ := r
    dsimp only [lstOf] at h
    cases e : μ[i]? with
    | none => rw [e] at h; cases h
    | some m =>
      rw [e] at h
      cases m with
      | lst l' =>
        cases (show some l' = some l from h)
        obtain ⟨_, xs, k2, k3⟩ := I.cell i a _ h2 e
        exact ⟨a, xs, h1, k2, k3⟩
      | _ => cases h
  | _ => cases h
theorem seq_at (I : SI S c μ) (r : rep S c.io c.F d v) (h : seqOf μ d = some l) : ∃ a xs, v = .ref a ∧ (SqL S.K c.H a xs ∨ SqT S.K c.H a xs) ∧ reps S c.io c.F l xs := by
  cases d with
  | tup l' =>
    unfold rep at r
    obtain ⟨a, xs, h1, h2, h3⟩ := r
    cases (show some l' = some l from h)
    exact ⟨a, xs, h1, Or.inr (ex_t I.ex h2), h3⟩
  | lst l' =>
    obtain ⟨a, xs, h1, h2, h3⟩ := lst_at I r (show lstOf μ (.lst l') = some l from h)
    exact ⟨a, xs, h1, Or.inl (sq_of h2), h3⟩
  | cel i =>
    obtain ⟨a, xs, h1, h2, h3⟩ := lst_at I r (show lstOf μ (.cel i) = some l from h)
    exact ⟨a, xs, h1, Or.inl (sq_of h2), h3⟩
  | scr ns =>
    unfold rep at r
    obtain ⟨a, h1, h2⟩ := r
    cases (show some (ns.map D.int) = some l from h)
    exact ⟨a, _, h1, Or.inl (ex_l I.ex h2), reps_ints ns⟩
  | _ => cases h
/-- a new list, a new tuple -/
theorem new_lst {xs : List V} {Q : VK} {p : Addr} (I : SI S c μ) (r : reps S c.io c.F l xs) (k : ∀ v c', Step S c c' → SI S c' μ → rep S c'.io c'.F (.lst l) v → Q v c'.H) (hp : c.H p = none) : Q (.ref p) (upd c.H p (.lst xs)) := by
  obtain ⟨I', s⟩ := I.fresh (o := .lst xs) hp
  refine k _ _ s I' ?_
  unfold rep
  exact ⟨p, xs, rfl, upd_same, s.reps r⟩
theorem new_tup {xs : List V} {Q : VK} {p : Addr} (I : SI S c μ) (r : reps S c.io c.F l xs) (k : ∀ v c', Step S c c' → SI S c' μ → rep S c'.io c'.F (.tup l) v → Q v c'.H) (hp : c.H p = none) : Q (.ref p) (upd c.H p (.tup xs)) := by
  obtain ⟨I', s⟩ := I.fresh (o := .tup xs) hp
  refine k _ _ s I' ?_
  unfold rep
  exact ⟨p, xs, rfl, st_of upd_same, s.reps r⟩
end
def truth (μ : List M) : D → Option Bool
  | .non => some false
  | .bl b => some b
  | .int i => some (decide (i ≠ 0))
  | .str s => if s.length ≤ 100000 then some (decide (s.length ≠ 0)) else none
  | .tup l => some (!l.isEmpty)
  | .lst l => some (!l.isEmpty)
  | .cel i => match μ[i]? with
    | some (.lst l) => some (!l.isEmpty)
    | _ => none
  | _ => none
theorem sz_of {n : Nat} (h : n ≤ 100000) : n ≤ sizeLine := Nat.le_trans h (by decide)
theorem sz_lt {n : Nat} (h : n < 100000) : n < sizeLine := Nat.lt_of_lt_of_le h (by decide)
theorem isEmpty_reps {S : Sx} {io : List Addr} {F : Hp} : ∀ {l : List D} {xs : List V}, reps S io F l xs → (!l.isEmpty) = !xs.isEmpty
  | [], _, h => by rw [h.eq_nil]; rfl
  | d :: l, _, h => by
    obtain ⟨x, r, rfl, _⟩ := h.uncons
    rfl
theorem tru_at {S : Sx} {c : Cf} {μ : List M} {d : D} {v : V} {b : Bool} (I : SI S c μ) (r : rep S c.io c.F d v) (h : truth μ d = some b) : TruV S.K v c.H b := by
  cases d with
  | non => rw [rep_non.mp r]; exact (Option.some.inj h).symm
  | bl k => rw [rep_bl.mp r]; exact (Option.some.inj h).symm
  | int i =>
    rw [rep_int.mp r, ← (Option.some.inj h : decide (i ≠ 0) = b)]
    show decide (i ≠ 0) = (i != 0)
    rw [Bool.eq_iff_iff]; simp
  | str s =>
    rw [(rep_str.mp r).1]
    dsimp only [truth] at h
    split at h
    · rename_i hs
      rw [← (Option.some.inj h : decide (s.length ≠ 0) = b)]
      refine ⟨sz_of hs, ?_⟩
      rw [Bool.eq_iff_iff]
      simp only [decide_eq_true_eq, bne_iff_ne]
      omega
    · cases h
  | tup l =>
    obtain ⟨a, xs, rfl, h2, h3⟩ := (show ∃ a xs, v = .ref a ∧ SqT S.K c.F a xs ∧ reps S c.io c.F l xs from by unfold rep at r; exact r)
    rw [← (Option.some.inj h : (!l.isEmpty) = b)]
    exact Or.inr (Or.inl ⟨xs, ex_t I.ex h2, isEmpty_reps h3⟩)
  | lst l =>
    obtain ⟨a, xs, rfl, h2, h3⟩ := lst_at I r (show lstOf μ (.lst l) = some l from rfl)
    rw [← (Option.some.inj h : (!l.isEmpty) = b)]
    exact Or.inl ⟨xs, sq_of h2, isEmpty_reps h3⟩
  | cel i =>
    dsimp only [truth] at h
    cases e : μ[i]? with
    | none => rw [e] at h; cases h
    | some m =>
      rw [e] at h
      cases m with
      | lst l =>
        obtain ⟨a, xs, rfl, h2, h3⟩ := lst_at (l := l) I r (by dsimp only [lstOf]; rw [e])
        rw [← (Option.some.inj h : (!l.isEmpty) = b)]
        exact Or.inl ⟨xs, sq_of h2, isEmpty_reps h3⟩
      | _ => cases h
  | _ => cases h
/-! ### operators -/
structure PDO (X : Cx) (S : Sx) (f : Value → Value → Sem Value) (g : List M → D → D → Option D) : Prop where
  ex : ∃ r : R2, OpR X f r ∧ ∀ c μ x y d1 d2 d Q, SI S c μ → rep S c.io c.F d1 x → rep S c.io c.F d2 y → g μ d1 d2 = some d →
    (∀ v c', Step S c c' → SI S c' μ → rep S c'.io c'.F d v → Q v c'.H) → r x y c.H Q
def dOp (g : List M → D → D → Option D) (da db : DE) : DE := fun env μ => (da env μ).bind fun x μ1 => (db env μ1).bind fun y μ2 => match g μ2 x y with
  | some d => .ok d μ2
  | none => .stuck
section
variable {X : Cx} {S : Sx} {W : WX} {a b e : Expr} {es : List Expr} {da db d : DE} {pos : Pos} {k : Nat}
theorem op_run {r : R2} {g : List M → D → D → Option D} {ta tb : TE}
    (hr : ∀ c μ x y d1 d2 d Q, SI S c μ → rep S c.io c.F d1 x → rep S c.io c.F d2 y → g μ d1 d2 = some d → (∀ v c', Step S c c' → SI S c' μ → rep S c'.io c'.F d v → Q v c'.H) → r x y c.H Q)
    (ka : ∀ env σ c μ Q, SI S c μ → EnvOk S c env σ → EQ S W σ c Q (da env μ) → ta σ c.H Q) (kb : ∀ env σ c μ Q, SI S c μ → EnvOk S c env σ → EQ S W σ c Q (db env μ) → tb σ c.H Q) :
    ∀ env σ c μ Q, SI S c μ → EnvOk S c env σ → EQ S W σ c Q (dOp g da db env μ) → tOp r ta tb σ c.H Q := by
  intro env σ c μ Q I en q
  show ta σ c.H fun x H1 => tb σ H1 fun y H2 => r x y H2 Q
  refine bindE (fun Q' => ka env σ c μ Q' I en) q fun x μ1 v c1 s1 I1 r1 q1 => ?_
  refine bindE (fun Q' => kb env σ c1 μ1 Q' I1 (en.step s1)) q1 fun y μ2 u c2 s2 I2 r2 q2 => ?_
  cases e1 : g μ2 x y with
  | none => rw [e1] at q2; exact q2.elim
  | some d =>
    rw [e1] at q2
    exact hr c2 μ2 v u x y d Q I2 (s2.rep r1) r2 e1 q2
theorem pd_op {op : Operator} {g : List M → D → D → Option D} (o : PDO X S (binaryOp op) g) (ha : PDE X S W a da) (hb : PDE X S W b db) : PDE X S W (.BinOp a op b pos) (dOp g da db) := by
  obtain ⟨r, ho, hr⟩ := o.ex
  obtain ⟨ta, pa, ka⟩ := ha.ex
  obtain ⟨tb, pb, kb⟩ := hb.ex
  exact ⟨_, pe_op ho pa pb, op_run hr ka kb⟩
theorem pd_cmp {op : CmpOp} {g : List M → D → D → Option D} (o : PDO X S (compareOp op) g) (ha : PDE X S W a da) (hb : PDE X S W b db) (hm : behindInMarks op b = false) : PDE X S W (.Compare a [op] [b] pos) (dOp g da db) := by
  obtain ⟨r, ho, hr⟩ := o.ex
  obtain ⟨ta, pa, ka⟩ := ha.ex
  obtain ⟨tb, pb, kb⟩ := hb.ex
  exact ⟨_, pe_cmpR ho pa pb hm, op_run hr ka kb⟩
def mulSmall (i j : Int) : Bool := decide (i.natAbs < 9223372036854775808) || (decide (j.natAbs < 9223372036854775808) || decide (i.natAbs.log2 + j.natAbs.log2 < 1000000))
theorem intBits_lt {x : Int} (h : x.natAbs < 9223372036854775808) : Builtin.Int.intBits x ≤ 64 := by
  unfold Builtin.Int.intBits
  by_cases z : x.natAbs = 0
  · simp only [z]; split <;> decide
  · have : x.natAbs.log2 < 63 := (Nat.log2_lt z).mpr h
    split <;> omega
theorem mulSmall_ok {i j : Int} (h : mulSmall i j = true) : IntMulOk i j := by
  unfold mulSmall at h
  rcases Bool.or_eq_true_iff.mp h with h | h
  · exact IntMulOk.of_left (intBits_lt (of_decide_eq_true h))
  · rcases Bool.or_eq_true_iff.mp h with h | h
    · exact IntMulOk.of_right (intBits_lt (of_decide_eq_true h))
    · exact CMulW.ok (show CMulW i j from (of_decide_eq_true h : i.natAbs.log2 + j.natAbs.log2 < 1000000))
theorem op_mulOk {X : Cx} : OpR X (binaryOp .Mult) (rI IntMulOk fun i j => .int (i * j)) := opI fun _ _ _ _ _ _ _ hc q => mul_int q hc
def addSeq (μ : List M) (x y : D) : Option D := match lstOf μ x, lstOf μ y with
  | some l, some l' => if l.length + l'.length ≤ 100000 then some (.lst (l ++ l')) else none
  | _, _ => none
def opAdd (μ : List M) : D → D → Option D
  | .int i, .int j => some (.int (i + j))
  | .str x, .str y => if x.length + y.length ≤ 100000 then some (.str (x ++ y)) else none
  | x, y => addSeq μ x y
def opSub (_ : List M) : D → D → Option D
  | .int i, .int j => some (.int (i - j))
  | _, _ => none
def opMul (_ : List M) : D → D → Option D
  | .int i, .int j => if mulSmall i j then some (.int (i * j)) else none
  | _, _ => none
def opMod (_ : List M) : D → D → Option D
  | .int i, .int j => if 0 < j then some (.int (i % j)) else none
  | _, _ => none
def opDiv (_ : List M) : D → D → Option D
  | .int i, .int j => if 0 < j ∧ j.natAbs.log2 < 9000 then some (.int (i / j)) else none
  | _, _ => none
def opPow (_ : List M) : D → D → Option D
  | .int i, .int j => if 0 ≤ j ∧ j ≤ 1000000 ∧ i.natAbs < 2 ^ 64 then some (.int (i ^ j.toNat)) else none
  | _, _ => none
theorem okS_append {x y : Str} (h : okS x = true) (h' : okS y = true) : okS (x ++ y) = true := by
  unfold okS at *
  show (x.cps ++ y.cps).all _ = true
  rw [Array.all_append, h, h']; rfl
theorem pdo_int {f : Value → Value → Sem Value} {C : Int → Int → Prop} {h : Int → Int → D} {h' : Int → Int → V} {g : List M → D → D → Option D} (o : OpR X f (rI C h'))
    (hg : ∀ μ x y d, g μ x y = some d → ∃ i j, x = .int i ∧ y = .int j ∧ C i j ∧ d = h i j) (hh : ∀ i j io F, rep S io F (h i j) (h' i j)) : PDO X S f g := by
  refine ⟨_, o, fun c μ x y d1 d2 d Q I r1 r2 e k => ?_⟩
  obtain ⟨i, j, rfl, rfl, hc, rfl⟩ := hg μ d1 d2 d e
  exact ⟨i, j, rep_int.mp r1, rep_int.mp r2, hc, k _ c I.step I (hh i j _ _)⟩
theorem pdo_int0 {f : Value → Value → Sem Value} {h : Int → Int → D} {h' : Int → Int → V} {g : List M → D → D → Option D} (o : OpR X f (rI0 h'))
    (hg : ∀ μ x y d, g μ x y = some d → ∃ i j, x = .int i ∧ y = .int j ∧ d = h i j) (hh : ∀ i j io F, rep S io F (h i j) (h' i j)) : PDO X S f g := by
  refine ⟨_, o, fun c μ x y d1 d2 d Q I r1 r2 e k => ?_⟩
  obtain ⟨i, j, rfl, rfl, rfl⟩ := hg μ d1 d2 d e
  exact ⟨i, j, rep_int.mp r1, rep_int.mp r2, k _ c I.step I (hh i j _ _)⟩
theorem po_sub : PDO X S (binaryOp .Sub) opSub := pdo_int0 (h := fun i j => .int (i - j)) op_sub (fun μ x y d e => by
  unfold opSub at e
  split at e
  · exact ⟨_, _, rfl, rfl, (Option.some.inj e).symm⟩
  · cases e) fun _ _ _ _ => rep_int.mpr rfl
theorem po_mul : PDO X S (binaryOp .Mult) opMul := pdo_int (h := fun i j => .int (i * j)) op_mulOk (fun μ x y d e => by
  unfold opMul at e
  split at e
  · split at e
    · rename_i hm
      exact ⟨_, _, rfl, rfl, mulSmall_ok hm, (Option.some.inj e).symm⟩
    · cases e
  · cases e) fun _ _ _ _ => rep_int.mpr rfl
theorem po_div : PDO X S (binaryOp .FloorDiv) opDiv := pdo_int (h := fun i j => .int (i / j)) op_fdivW (fun μ x y d e => by
  unfold opDiv at e
  split at e
  · split at e
    · rename_i hm
      exact ⟨_, _, rfl, rfl, hm, (Option.some.inj e).symm⟩
    · cases e
  · cases e) fun _ _ _ _ => rep_int.mpr rfl
theorem po_pow : PDO X S (binaryOp .Pow) opPow := pdo_int (h := fun i j => .int (i ^ j.toNat)) op_pow (fun μ x y d e => by
  unfold opPow at e
  split at e
  · split at e
    · rename_i hm
      exact ⟨_, _, rfl, rfl, hm, (Option.some.inj e).symm⟩
    · cases e
  · cases e) fun _ _ _ _ => rep_int.mpr rfl
theorem po_mod : PDO X S (binaryOp .Mod) opMod := by
  refine ⟨_, op_modN, fun c μ x y d1 d2 d Q I r1 r2 e k => ?_⟩
  unfold opMod at e
  split at e
  · rename_i i j
    split at e
    · rename_i hj
      obtain rfl := Option.some.inj e
      refine ⟨i, j, rep_int.mp r1, rep_int.mp r2, by omega, ?_⟩
      show Q (.int (i.fmod j)) c.H
      rw [Int.fmod_eq_emod_of_nonneg _ (Int.le_of_lt hj)]
      exact k _ c I.step I (rep_int.mpr rfl)
    · cases e
  · cases e
theorem po_add : PDO X S (binaryOp .Add) opAdd := by
  refine ⟨fun x y H Q => (rI0 fun i j => .int (i + j)) x y H Q ∨ (∃ i j, x = V.str i ∧ y = V.str j ∧ i.length + j.length ≤ sizeLine ∧ Q (.str (i ++ j)) H) ∨ rCat x y H Q, ?_, ?_⟩
  · intro pins s σ H x y v u Q I rx ry h
    rcases h with h | h | h
    · exact op_add pins s σ H x y v u Q I rx ry h
    · exact op_add_str pins s σ H x y v u Q I rx ry h
    · exact op_cat pins s σ H x y v u Q I rx ry h
  · intro c μ x y d1 d2 d Q I r1 r2 e k
    have sq : addSeq μ d1 d2 = some d → rCat x y c.H Q := fun e => by
      unfold addSeq at e
      split at e
      · rename_i l l' h1 h2
        split at e
        · rename_i hl
          obtain rfl := Option.some.inj e
          obtain ⟨p, xs, rfl, k1, k2⟩ := lst_at I r1 h1
          obtain ⟨q, ys, rfl, k3, k4⟩ := lst_at I r2 h2
          exact ⟨p, q, xs, ys, rfl, rfl, k1, k3, by rw [← k2.len, ← k4.len]; exact sz_of hl, fun z hz => new_lst I (k2.append k4) k hz⟩
        · cases e
      · cases e
    unfold opAdd at e
    split at e
    · obtain rfl := Option.some.inj e
      exact Or.inl ⟨_, _, rep_int.mp r1, rep_int.mp r2, k _ c I.step I (rep_int.mpr rfl)⟩
    · split at e
      · rename_i hl
        obtain rfl := Option.some.inj e
        exact Or.inr (Or.inl ⟨_, _, (rep_str.mp r1).1, (rep_str.mp r2).1, sz_of hl, k _ c I.step I (rep_str.mpr ⟨rfl, okS_append (rep_str.mp r1).2 (rep_str.mp r2).2⟩)⟩)
      · cases e
    · exact Or.inr (Or.inr (sq e))
end
end DL
namespace DL
open PySem PySem.Spec PyProof.Rows L2
/-! ### equality of plain data -/
mutual
def plain : D → Bool
  | .non => true | .bl _ => true | .int _ => true | .str _ => true
  | .tup l => plains l | .lst l => plains l
  | _ => false
def plains : List D → Bool
  | [] => true
  | d :: l => plain d && plains l
end
mutual
def dep : D → Nat
  | .tup l => deps l + 1 | .lst l => deps l + 1
  | _ => 0
def deps : List D → Nat
  | [] => 0
  | d :: l => max (dep d) (deps l)
end
mutual
def py : D → PyData
  | .non => .none | .bl b => .bool b | .int i => .int i | .str s => .str s
  | .tup l => .tuple (pys l) | .lst l => .list (pys l)
  | _ => .none
def pys : List D → List PyData
  | [] => []
  | d :: l => py d :: pys l
end
mutual
def eqB : D → D → Bool
  | .non, .non => true
  | .bl a, .bl b => a == b
  | .bl a, .int j => (if a then 1 else 0) == j
  | .int i, .bl b => i == (if b then 1 else 0)
  | .int i, .int j => i == j
  | .str x, .str y => x == y
  | .tup l, .tup l' => eqBs l l'
  | .lst l, .lst l' => eqBs l l'
  | _, _ => false
def eqBs : List D → List D → Bool
  | [], [] => true
  | d :: l, d' :: l' => eqB d d' && eqBs l l'
  | _, _ => false
end
mutual
theorem eqB_py : ∀ (x y : D), plain x = true → plain y = true → eqB x y = PyData.eqv (py x) (py y)
  | .tup l, y, hx, hy => by
    cases y with
    | tup l' => unfold plain at hx hy; unfold eqB py PyData.eqv; exact eqBs_py l l' hx hy
    | _ => first | (unfold plain at hy; cases hy; done) | (simp [eqB, py, PyData.eqv]; done)
  | .lst l, y, hx, hy => by
    cases y with
    | lst l' => unfold plain at hx hy; unfold eqB py PyData.eqv; exact eqBs_py l l' hx hy
    | _ => first | (unfold plain at hy; cases hy; done) | (simp [eqB, py, PyData.eqv]; done)
  | .non, y, _, hy => by cases y <;> first | (unfold plain at hy; cases hy; done) | (simp [eqB, py, PyData.eqv]; done)
  | .bl b, y, _, hy => by cases y <;> first | (unfold plain at hy; cases hy; done) | (simp [eqB, py, PyData.eqv]; done)
  | .int i, y, _, hy => by cases y <;> first | (unfold plain at hy; cases hy; done) | (simp [eqB, py, PyData.eqv]; done)
  | .str s, y, _, hy => by cases y <;> first | (unfold plain at hy; cases hy; done) | (simp [eqB, py, PyData.eqv]; done)
  | .ty _, _, hx, _ => by unfold plain at hx; cases hx
  | .glo _, _, hx, _ => by unfold plain at hx; cases hx
  | .dct _ _, _, hx, _ => by unfold plain at hx; cases hx
  | .obj _ _ _, _, hx, _ => by unfold plain at hx; cases hx
  | .cel _, _, hx, _ => by unfold plain at hx; cases hx
  | .scr _, _, hx, _ => by unfold plain at hx; cases hx
  | .exc _ _ _, _, hx, _ => by unfold plain at hx; cases hx
  | .txt, _, hx, _ => by unfold plain at hx; cases hx
theorem eqBs_py : ∀ (l l' : List D), plains l = true → plains l' = true → eqBs l l' = PyData.eqvAll (pys l) (pys l')
  | [], [], _, _ => by simp [eqBs, pys, PyData.eqvAll]
  | [], _ :: _, _, _ => by simp [eqBs, pys, PyData.eqvAll]
  | _ :: _, [], _, _ => by simp [eqBs, pys, PyData.eqvAll]
  | d :: l, d' :: l', h, h' => by
    unfold plains at h h'
    have h1 := Bool.and_eq_true_iff.mp h
    have h2 := Bool.and_eq_true_iff.mp h'
    unfold eqBs pys PyData.eqvAll
    rw [eqB_py d d' h1.1 h2.1, eqBs_py l l' h1.2 h2.2]
end
mutual
theorem dep_py : ∀ x : D, (py x).depth = dep x
  | .tup l => by unfold py dep; rw [PyData.depth, deps_py l]
  | .lst l => by unfold py dep; rw [PyData.depth, deps_py l]
  | .non => by simp [py, dep, PyData.depth]
  | .bl _ => by simp [py, dep, PyData.depth]
  | .int _ => by simp [py, dep, PyData.depth]
  | .str _ => by simp [py, dep, PyData.depth]
  | .ty _ => by simp [py, dep, PyData.depth]
  | .glo _ => by simp [py, dep, PyData.depth]
  | .dct _ _ => by simp [py, dep, PyData.depth]
  | .obj _ _ _ => by simp [py, dep, PyData.depth]
  | .cel _ => by simp [py, dep, PyData.depth]
  | .scr _ => by simp [py, dep, PyData.depth]
  | .exc _ _ _ => by simp [py, dep, PyData.depth]
  | .txt => by simp [py, dep, PyData.depth]
theorem deps_py : ∀ l : List D, PyData.depthAll (pys l) = deps l
  | [] => by simp [pys, deps, PyData.depthAll]
  | d :: l => by unfold pys deps; rw [PyData.depthAll, dep_py d, deps_py l]
end
section
variable {S : Sx} {io : List Addr} {F H : Hp}
mutual
theorem rep_lay : ∀ (d : D) {v : V}, rep S io F d v → plain d = true → (py d).canLay0 = true
  | .tup l, _, r, p => by
    unfold rep at r; unfold plain at p; unfold py
    obtain ⟨_, _, _, _, r3⟩ := r
    rw [PyData.canLay0]; exact reps_lay l r3 p
  | .lst l, _, r, p => by
    unfold rep at r; unfold plain at p; unfold py
    obtain ⟨_, _, _, _, r3⟩ := r
    rw [PyData.canLay0]; exact reps_lay l r3 p
  | .non, _, _, _ => by simp [py, PyData.canLay0]
  | .bl _, _, _, _ => by simp [py, PyData.canLay0]
  | .int _, _, _, _ => by simp [py, PyData.canLay0]
  | .str s, _, r, _ => by
    unfold py; rw [PyData.canLay0]
    exact (rep_str.mp r).2
  | .ty _, _, _, hx => by unfold plain at hx; cases hx
  | .glo _, _, _, hx => by unfold plain at hx; cases hx
  | .dct _ _, _, _, hx => by unfold plain at hx; cases hx
  | .obj _ _ _, _, _, hx => by unfold plain at hx; cases hx
  | .cel _, _, _, hx => by unfold plain at hx; cases hx
  | .scr _, _, _, hx => by unfold plain at hx; cases hx
  | .exc _ _ _, _, _, hx => by unfold plain at hx; cases hx
  | .txt, _, _, hx => by unfold plain at hx; cases hx
theorem reps_lay : ∀ (l : List D) {xs : List V}, reps S io F l xs → plains l = true → PyData.canLayAll0 (pys l) = true
  | [], _, _, _ => by simp [pys, PyData.canLayAll0]
  | d :: l, _, r, p => by
    obtain ⟨x, q, rfl, r1, r2⟩ := r.uncons
    unfold plains at p
    have p1 := Bool.and_eq_true_iff.mp p
    unfold pys
    rw [PyData.canLayAll0, rep_lay d r1 p1.1, reps_lay l r2 p1.2]; rfl
end
mutual
theorem rep_dp (e : Ex F H) : ∀ (d : D) {v : V}, rep S io F d v → plain d = true → Dp S.K H v (py d)
  | .tup l, _, r, p => by
    unfold rep at r; unfold plain at p; unfold py
    obtain ⟨a, xs, rfl, r2, r3⟩ := r
    exact .tup (ex_t e r2) (reps_dp e l r3 p)
  | .lst l, _, r, p => by
    unfold rep at r; unfold plain at p; unfold py
    obtain ⟨a, xs, rfl, r2, r3⟩ := r
    exact .lst (sq_of (e _ _ r2)) (reps_dp e l r3 p)
  | .non, _, r, _ => by rw [rep_non.mp r]; unfold py; exact .non
  | .bl _, _, r, _ => by rw [rep_bl.mp r]; unfold py; exact .bl _
  | .int _, _, r, _ => by rw [rep_int.mp r]; unfold py; exact .int _
  | .str s, _, r, _ => by rw [(rep_str.mp r).1]; unfold py; exact .str _
  | .ty _, _, _, hx => by unfold plain at hx; cases hx
  | .glo _, _, _, hx => by unfold plain at hx; cases hx
  | .dct _ _, _, _, hx => by unfold plain at hx; cases hx
  | .obj _ _ _, _, _, hx => by unfold plain at hx; cases hx
  | .cel _, _, _, hx => by unfold plain at hx; cases hx
  | .scr _, _, _, hx => by unfold plain at hx; cases hx
  | .exc _ _ _, _, _, hx => by unfold plain at hx; cases hx
  | .txt, _, _, hx => by unfold plain at hx; cases hx
theorem reps_dp (e : Ex F H) : ∀ (l : List D) {xs : List V}, reps S io F l xs → plains l = true → DpAll S.K H xs (pys l)
  | [], _, r, _ => by rw [r.eq_nil]; unfold pys; exact .nil
  | d :: l, _, r, p => by
    obtain ⟨x, q, rfl, r1, r2⟩ := r.uncons
    unfold plains at p
    have p1 := Bool.and_eq_true_iff.mp p
    unfold pys
    exact .cons (rep_dp e d r1 p1.1) (reps_dp e l r2 p1.2)
end
end
/-- a cell's list as it stands -/
def now (μ : List M) : D → D
  | .cel i => match μ[i]? with
    | some (.lst l) => .lst l
    | _ => .cel i
  | d => d
theorem dp_at {S : Sx} {c : Cf} {μ : List M} {d : D} {v : V} (I : SI S c μ) (r : rep S c.io c.F d v) (p : plain (now μ d) = true) : Dp S.K c.H v (py (now μ d)) ∧ (py (now μ d)).canLay0 = true := by
  have same : now μ d = d → Dp S.K c.H v (py (now μ d)) ∧ (py (now μ d)).canLay0 = true := fun e => by
    rw [e] at p ⊢
    exact ⟨rep_dp I.ex d r p, rep_lay d r p⟩
  cases d with
  | cel i =>
    cases e : μ[i]? with
    | none => exact same (by dsimp only [now]; rw [e])
    | some m =>
      cases m with
      | lst l =>
        have en : now μ (.cel i) = .lst l := by dsimp only [now]; rw [e]
        rw [en] at p ⊢
        obtain ⟨a, xs, rfl, h2, h3⟩ := lst_at (l := l) I r (by dsimp only [lstOf]; rw [e])
        unfold plain at p; unfold py
        refine ⟨.lst (sq_of h2) (reps_dp I.ex l h3 p), ?_⟩
        rw [PyData.canLay0]; exact reps_lay l h3 p
      | _ => exact same (by dsimp only [now]; rw [e])
  | _ => exact same rfl
def eqOk (x y : D) : Bool := plain x && (plain y && (decide (dep x ≤ 64) && decide (dep y ≤ 64)))
def opEq (μ : List M) (x y : D) : Option D := if eqOk (now μ x) (now μ y) then some (.bl (eqB (now μ x) (now μ y))) else none
def opNe (μ : List M) (x y : D) : Option D := if eqOk (now μ x) (now μ y) then some (.bl (!eqB (now μ x) (now μ y))) else none
section
variable {X : Cx} {S : Sx} {W : WX} {a b e : Expr} {es : List Expr} {da db d : DE} {pos : Pos} {k : Nat}
theorem eq_parts {c : Cf} {μ : List M} {x y : V} {d1 d2 : D} (I : SI S c μ) (r1 : rep S c.io c.F d1 x) (r2 : rep S c.io c.F d2 y) (h : eqOk (now μ d1) (now μ d2) = true) :
    ∃ d e, Dp S.K c.H x d ∧ Dp S.K c.H y e ∧ SeqAt.shaped d = true ∧ SeqAt.shaped e = true ∧ PyData.eqv d e = eqB (now μ d1) (now μ d2) := by
  obtain ⟨h1, h⟩ := Bool.and_eq_true_iff.mp h
  obtain ⟨h2, h⟩ := Bool.and_eq_true_iff.mp h
  obtain ⟨h3, h4⟩ := Bool.and_eq_true_iff.mp h
  obtain ⟨k1, k2⟩ := dp_at I r1 h1
  obtain ⟨k3, k4⟩ := dp_at I r2 h2
  refine ⟨_, _, k1, k3, Bool.and_eq_true_iff.mpr ⟨k2, ?_⟩, Bool.and_eq_true_iff.mpr ⟨k4, ?_⟩, (eqB_py _ _ h1 h2).symm⟩
  · rw [dep_py]; exact h3
  · rw [dep_py]; exact h4
theorem po_eq (hK : X.K = S.K) (hu : X.A.units + 64 < cLine) : PDO X S (compareOp .Eq) opEq := by
  refine ⟨_, op_eqD hu, fun c μ x y d1 d2 d Q I r1 r2 e k => ?_⟩
  unfold opEq at e
  split at e
  · rename_i h
    obtain rfl := Option.some.inj e
    obtain ⟨p, q, k1, k2, k3, k4, k5⟩ := eq_parts I r1 r2 h
    refine ⟨p, q, by rw [hK]; exact k1, by rw [hK]; exact k2, k3, k4, ?_⟩
    rw [k5]
    exact k _ c I.step I (rep_bl.mpr rfl)
  · cases e
theorem po_ne (hK : X.K = S.K) (hu : X.A.units + 64 < cLine) : PDO X S (compareOp .NotEq) opNe := by
  refine ⟨_, op_neD hu, fun c μ x y d1 d2 d Q I r1 r2 e k => ?_⟩
  unfold opNe at e
  split at e
  · rename_i h
    obtain rfl := Option.some.inj e
    obtain ⟨p, q, k1, k2, k3, k4, k5⟩ := eq_parts I r1 r2 h
    refine ⟨p, q, by rw [hK]; exact k1, by rw [hK]; exact k2, k3, k4, ?_⟩
    rw [k5]
    exact k _ c I.step I (rep_bl.mpr rfl)
  · cases e
/-! ### order -/
def ltL (x y : Str) : Bool := decide (x.cps.toList < y.cps.toList)
def opLt (_ : List M) : D → D → Option D
  | .int i, .int j => some (.bl (decide (i < j)))
  | .str x, .str y => some (.bl (ltL x y))
  | _, _ => none
def opLe (_ : List M) : D → D → Option D
  | .int i, .int j => some (.bl (decide (i ≤ j)))
  | .str x, .str y => some (.bl (!ltL y x))
  | _, _ => none
def opGt (_ : List M) : D → D → Option D
  | .int i, .int j => some (.bl (decide (j < i)))
  | .str x, .str y => some (.bl (ltL y x))
  | _, _ => none
def opGe (_ : List M) : D → D → Option D
  | .int i, .int j => some (.bl (decide (j ≤ i)))
  | .str x, .str y => some (.bl (!ltL x y))
  | _, _ => none
theorem or_op {f : Value → Value → Sem Value} {r r' : R2} (h : OpR X f r) (h' : OpR X f r') : OpR X f (fun x y H Q => r x y H Q ∨ r' x y H Q) := by
  intro pins s σ H x y v u Q I rx ry q
  rcases q with q | q
  · exact h pins s σ H x y v u Q I rx ry q
  · exact h' pins s σ H x y v u Q I rx ry q
theorem po_lt : PDO X S (compareOp .Lt) opLt := by
  refine ⟨_, or_op op_lt op_lt_str, fun c μ x y d1 d2 d Q I r1 r2 e k => ?_⟩
  unfold opLt at e
  split at e
  · obtain rfl := Option.some.inj e
    exact Or.inl ⟨_, _, rep_int.mp r1, rep_int.mp r2, k _ c I.step I (rep_bl.mpr rfl)⟩
  · obtain rfl := Option.some.inj e
    exact Or.inr ⟨_, _, (rep_str.mp r1).1, (rep_str.mp r2).1, k _ c I.step I (rep_bl.mpr rfl)⟩
  · cases e
theorem po_gt : PDO X S (compareOp .Gt) opGt := by
  refine ⟨_, or_op op_gt op_gt_str, fun c μ x y d1 d2 d Q I r1 r2 e k => ?_⟩
  unfold opGt at e
  split at e
  · obtain rfl := Option.some.inj e
    exact Or.inl ⟨_, _, rep_int.mp r1, rep_int.mp r2, k _ c I.step I (rep_bl.mpr rfl)⟩
  · obtain rfl := Option.some.inj e
    exact Or.inr ⟨_, _, (rep_str.mp r1).1, (rep_str.mp r2).1, k _ c I.step I (rep_bl.mpr rfl)⟩
  · cases e
theorem po_ge : PDO X S (compareOp .GtE) opGe := by
  refine ⟨_, or_op op_ge op_ge_str, fun c μ x y d1 d2 d Q I r1 r2 e k => ?_⟩
  unfold opGe at e
  split at e
  · obtain rfl := Option.some.inj e
    exact Or.inl ⟨_, _, rep_int.mp r1, rep_int.mp r2, k _ c I.step I (rep_bl.mpr rfl)⟩
  · obtain rfl := Option.some.inj e
    exact Or.inr ⟨_, _, (rep_str.mp r1).1, (rep_str.mp r2).1, k _ c I.step I (rep_bl.mpr rfl)⟩
  · cases e
/-! ### is None -/
def isNon : D → Bool
  | .non => true
  | _ => false
theorem isNon_at {io : List Addr} {F : Hp} {d : D} {v : V} (r : rep S io F d v) : decide (v = .non) = isNon d := by
  cases d <;> first
    | (rw [rep_non.mp r]; rfl)
    | (rw [rep_bl.mp r]; rfl)
    | (rw [rep_int.mp r]; rfl)
    | (rw [(rep_str.mp r).1]; rfl)
    | (rw [rep_ty.mp r]; rfl)
    | (rw [rep_glo.mp r]; rfl)
    | (unfold rep at r; obtain ⟨a, _, rfl, _⟩ := r; rfl)
    | (unfold rep at r; obtain ⟨a, _, _, rfl, _⟩ := r; rfl)
    | (unfold rep at r; obtain ⟨a, rfl, _⟩ := r; rfl)
def opIs (_ : List M) : D → D → Option D
  | x, .non => some (.bl (isNon x))
  | _, _ => none
def opIsN (_ : List M) : D → D → Option D
  | x, .non => some (.bl (!isNon x))
  | _, _ => none
theorem po_is : PDO X S (compareOp .Is) opIs := by
  refine ⟨_, op_isN, fun c μ x y d1 d2 d Q I r1 r2 e k => ?_⟩
  unfold opIs at e
  split at e
  · obtain rfl := Option.some.inj e
    refine ⟨rep_non.mp r2, ?_⟩
    rw [isNon_at r1]
    exact k _ c I.step I (rep_bl.mpr rfl)
  · cases e
theorem po_isN : PDO X S (compareOp .IsNot) opIsN := by
  refine ⟨_, op_notN, fun c μ x y d1 d2 d Q I r1 r2 e k => ?_⟩
  unfold opIsN at e
  split at e
  · obtain rfl := Option.some.inj e
    refine ⟨rep_non.mp r2, ?_⟩
    rw [isNon_at r1]
    exact k _ c I.step I (rep_bl.mpr rfl)
  · cases e
/-! ### and, or, not as values; as tests -/
def dOr (da db : DE) : DE := fun env μ => (da env μ).bind fun x μ1 => match truth μ1 x with
  | some true => .ok x μ1
  | some false => db env μ1
  | none => .stuck
def dAnd (da db : DE) : DE := fun env μ => (da env μ).bind fun x μ1 => match truth μ1 x with
  | some true => db env μ1
  | some false => .ok x μ1
  | none => .stuck
def dNot (da : DE) : DE := fun env μ => (da env μ).bind fun x μ1 => match truth μ1 x with
  | some b => .ok (.bl (!b)) μ1
  | none => .stuck
theorem pd_or {rest : List Expr} (hK : X.K = S.K) (ha : PDE X S W a da) (hb : PDE X S W (.BoolOp .Or (b :: rest) pos) db) : PDE X S W (.BoolOp .Or (a :: b :: rest) pos) (dOr da db) := by
  obtain ⟨ta, pa, ka⟩ := ha.ex
  obtain ⟨tb, pb, kb⟩ := hb.ex
  refine ⟨_, pe_orT pa pb, fun env σ c μ Q I en q => ?_⟩
  show ta σ c.H fun x H1 => ∃ k, TruV X.K x H1 k ∧ if k = true then Q x H1 else tb σ H1 Q
  refine bindE (fun Q' => ka env σ c μ Q' I en) q fun x μ1 v c1 s1 I1 r1 q1 => ?_
  cases e1 : truth μ1 x with
  | none => rw [e1] at q1; exact q1.elim
  | some k =>
    rw [e1] at q1
    refine ⟨k, by rw [hK]; exact tru_at I1 r1 e1, ?_⟩
    cases k with
    | true => exact iteT (q1 v c1 I1.step I1 r1)
    | false => exact iteF (kb env σ c1 μ1 Q I1 (en.step s1) q1)
theorem pd_and {rest : List Expr} (hK : X.K = S.K) (ha : PDE X S W a da) (hb : PDE X S W (.BoolOp .And (b :: rest) pos) db) : PDE X S W (.BoolOp .And (a :: b :: rest) pos) (dAnd da db) := by
  obtain ⟨ta, pa, ka⟩ := ha.ex
  obtain ⟨tb, pb, kb⟩ := hb.ex
  refine ⟨_, pe_andT pa pb, fun env σ c μ Q I en q => ?_⟩
  show ta σ c.H fun x H1 => ∃ k, TruV X.K x H1 k ∧ if k = true then tb σ H1 Q else Q x H1
  refine bindE (fun Q' => ka env σ c μ Q' I en) q fun x μ1 v c1 s1 I1 r1 q1 => ?_
  cases e1 : truth μ1 x with
  | none => rw [e1] at q1; exact q1.elim
  | some k =>
    rw [e1] at q1
    refine ⟨k, by rw [hK]; exact tru_at I1 r1 e1, ?_⟩
    cases k with
    | true => exact iteT (kb env σ c1 μ1 Q I1 (en.step s1) q1)
    | false => exact iteF (q1 v c1 I1.step I1 r1)
theorem pd_one {op : BoolOp} (ha : PDE X S W a da) : PDE X S W (.BoolOp op [a] pos) da := by
  obtain ⟨ta, pa, ka⟩ := ha.ex
  exact ⟨_, pe_one pa, ka⟩
theorem pd_not (hK : X.K = S.K) (ha : PDE X S W a da) : PDE X S W (.UnaryOp .Not a pos) (dNot da) := by
  obtain ⟨ta, pa, ka⟩ := ha.ex
  refine ⟨_, pe_notT pa, fun env σ c μ Q I en q => ?_⟩
  show ta σ c.H fun x H1 => ∃ k, TruV X.K x H1 k ∧ Q (.bl (!k)) H1
  refine bindE (fun Q' => ka env σ c μ Q' I en) q fun x μ1 v c1 s1 I1 r1 q1 => ?_
  cases e1 : truth μ1 x with
  | none => rw [e1] at q1; exact q1.elim
  | some k =>
    rw [e1] at q1
    exact ⟨k, by rw [hK]; exact tru_at I1 r1 e1, q1 _ c1 I1.step I1 (rep_bl.mpr rfl)⟩
def opNeg (_ : List M) : D → Option D
  | .int i => some (.int (-i))
  | _ => none
def dNeg (da : DE) : DE := fun env μ => (da env μ).bind fun x μ1 => match x with
  | .int i => .ok (.int (-i)) μ1
  | _ => .stuck
/-- a test that is an expression's truth -/
def dTru (da : DE) : DT := fun env μ => (da env μ).bind fun x μ1 => match truth μ1 x with
  | some b => .ok b μ1
  | none => .stuck
def tAnd2 (a b : DT) : DT := fun env μ => (a env μ).bind fun k μ1 => if k = true then b env μ1 else .ok false μ1
def tOr2 (a b : DT) : DT := fun env μ => (a env μ).bind fun k μ1 => if k = true then .ok true μ1 else b env μ1
def tNot2 (a : DT) : DT := fun env μ => (a env μ).bind fun k μ1 => .ok (!k) μ1
theorem pdt_tru (hK : X.K = S.K) (ha : PDE X S W a da) (he : ∀ whole, isTrue a X.env whole = (do let v ← whole; standAt a.pos; holding [v] (truthy v)) := by intro _; rfl) : PDT X S W a (dTru da) := by
  obtain ⟨ta, pa, ka⟩ := ha.ex
  refine ⟨_, pt_truth pa he, fun env σ c μ Q I en q => ?_⟩
  show ta σ c.H fun x H1 => ∃ k, TruV X.K x H1 k ∧ Q k H1
  refine bindET (fun Q' => ka env σ c μ Q' I en) q fun x μ1 v c1 s1 I1 r1 q1 => ?_
  cases e1 : truth μ1 x with
  | none => rw [e1] at q1; exact q1.elim
  | some k =>
    rw [e1] at q1
    exact ⟨k, by rw [hK]; exact tru_at I1 r1 e1, q1 c1 I1.step I1⟩
/-- a comparison's test -/
def dTst (da : DE) : DT := fun env μ => (da env μ).bind fun x μ1 => match x with
  | .bl b => .ok b μ1
  | _ => .stuck
theorem pdt_cmp {op : CmpOp} {g : List M → D → D → Option D} (o : PDO X S (compareOp op) g) (ha : PDE X S W a da) (hb : PDE X S W b db) (hm : behindInMarks op b = false) : PDT X S W (.Compare a [op] [b] pos) (dTst (dOp g da db)) := by
  obtain ⟨r, ho, hr⟩ := o.ex
  obtain ⟨ta, pa, ka⟩ := ha.ex
  obtain ⟨tb, pb, kb⟩ := hb.ex
  refine ⟨_, pt_cmpR ho pa pb hm, fun env σ c μ Q I en q => ?_⟩
  show tOp r ta tb σ c.H fun x H' => ∃ k, x = .bl k ∧ Q k H'
  refine bindET (fun Q' => op_run hr ka kb env σ c μ Q' I en) q fun x μ1 v c1 s1 I1 r1 q1 => ?_
  cases x with
  | bl k => exact ⟨k, rep_bl.mp r1, q1 c1 I1.step I1⟩
  | _ => exact q1.elim
variable {ta tb : DT}
theorem PDW.pt {t : DT} (h : PDW X S W e t) : PDT X S W e t := by
  obtain ⟨ta, pa, ka⟩ := h.ex
  exact ⟨_, pa.pt, ka⟩
theorem pdw_and1 (ha : PDT X S W a ta) : PDW X S W (.BoolOp .And [a] pos) ta := by
  obtain ⟨t, pa, ka⟩ := ha.ex
  exact ⟨_, pw_and1 pa, ka⟩
theorem pdw_or1 (ha : PDT X S W a ta) : PDW X S W (.BoolOp .Or [a] pos) ta := by
  obtain ⟨t, pa, ka⟩ := ha.ex
  exact ⟨_, pw_or1 pa, ka⟩
theorem pdw_and {rest : List Expr} (ha : PDT X S W a ta) (hb : PDW X S W (.BoolOp .And (b :: rest) pos) tb) : PDW X S W (.BoolOp .And (a :: b :: rest) pos) (tAnd2 ta tb) := by
  obtain ⟨t, pa, ka⟩ := ha.ex
  obtain ⟨u, pb, kb⟩ := hb.ex
  refine ⟨_, pw_and pa pb, fun env σ c μ Q I en q => ?_⟩
  show t σ c.H fun c H1 => if c = true then u σ H1 Q else Q false H1
  refine bindTT (fun Q' => ka env σ c μ Q' I en) q fun k μ1 c1 s1 I1 q1 => ?_
  cases k with
  | true => exact iteT (kb env σ c1 μ1 Q I1 (en.step s1) q1)
  | false => exact iteF (q1 c1 I1.step I1)
theorem pdw_or {rest : List Expr} (ha : PDT X S W a ta) (hb : PDW X S W (.BoolOp .Or (b :: rest) pos) tb) : PDW X S W (.BoolOp .Or (a :: b :: rest) pos) (tOr2 ta tb) := by
  obtain ⟨t, pa, ka⟩ := ha.ex
  obtain ⟨u, pb, kb⟩ := hb.ex
  refine ⟨_, pw_or pa pb, fun env σ c μ Q I en q => ?_⟩
  show t σ c.H fun c H1 => if c = true then Q true H1 else u σ H1 Q
  refine bindTT (fun Q' => ka env σ c μ Q' I en) q fun k μ1 c1 s1 I1 q1 => ?_
  cases k with
  | true => exact iteT (q1 c1 I1.step I1)
  | false => exact iteF (kb env σ c1 μ1 Q I1 (en.step s1) q1)
theorem pdt_not (ha : PDT X S W a ta) : PDT X S W (.UnaryOp .Not a pos) (tNot2 ta) := by
  obtain ⟨t, pa, ka⟩ := ha.ex
  refine ⟨_, pt_not pa, fun env σ c μ Q I en q => ?_⟩
  show t σ c.H fun c H1 => Q (!c) H1
  exact bindTT (fun Q' => ka env σ c μ Q' I en) q fun k μ1 c1 s1 I1 q1 => q1 c1 I1.step I1
def dIfE (t : DT) (da db : DE) : DE := fun env μ => (t env μ).bind fun k μ1 => if k = true then da env μ1 else db env μ1
/-- a < b < c -/
def dChain (g g' : List M → D → D → Option D) (da db dc : DE) : DE := fun env μ => (da env μ).bind fun x μ1 => (db env μ1).bind fun y μ2 => match g μ2 x y with
  | some (.bl k) => if k = true then (dc env μ2).bind fun z μ3 => match g' μ3 y z with
    | some d => .ok d μ3
    | none => .stuck
    else .ok (.bl false) μ2
  | _ => .stuck
end
end DL
namespace DL
open PySem PySem.Spec PyProof.Rows L2
/-! ### the widest readings of a denotation -/
def tE (S : Sx) (W : WX) (d : DE) : TE := fun σ H Q => ∃ env c μ, c.H = H ∧ SI S c μ ∧ EnvOk S c env σ ∧ EQ S W σ c Q (d env μ)
def tT (S : Sx) (W : WX) (d : DT) : TT := fun σ H Q => ∃ env c μ, c.H = H ∧ SI S c μ ∧ EnvOk S c env σ ∧ TQ S W σ c Q (d env μ)
section
variable {X : Cx} {S : Sx} {W : WX} {a b e : Expr} {es : List Expr} {da db d : DE} {dt : DT} {ds : DA} {pos : Pos} {k : Nat}
theorem PDE.pe (h : PDE X S W e d) : PE X e (tE S W d) := by
  obtain ⟨t, p, k⟩ := h.ex
  refine ⟨fun pins s σ H Q I q => ?_⟩
  obtain ⟨env, c, μ, rfl, i, en, q⟩ := q
  exact p.run pins s σ _ Q I (k env σ c μ Q i en q)
theorem PDT.pt (h : PDT X S W e dt) : PT X e (tT S W dt) := by
  obtain ⟨t, p, k⟩ := h.ex
  refine ⟨fun pins s σ H Q I q => ?_⟩
  obtain ⟨env, c, μ, rfl, i, en, q⟩ := q
  exact p.run pins s σ _ Q I (k env σ c μ Q i en q)
/-! ### arguments, displays -/
def aCons (da : DE) (ds : DA) : DA := fun env μ => (da env μ).bind fun x μ1 => (ds env μ1).bind fun l μ2 => .ok (x :: l) μ2
theorem pda_nil : PDA X S W [] aNil := ⟨_, pa_nil, fun env σ c μ Q I en q => q [] c I.step I .nil⟩
theorem pda_cons (ha : PDE X S W e da) (hr : PDA X S W es ds) (hs : starEach (e :: es) X.env = (false, eval e X.env) :: starEach es X.env := by rfl) : PDA X S W (e :: es) (aCons da ds) := by
  obtain ⟨ta, pa, ka⟩ := ha.ex
  obtain ⟨tb, pb, kb⟩ := hr.ex
  refine ⟨_, pa_cons pa pb hs, fun env σ c μ Q I en q => ?_⟩
  show ta σ c.H fun x H1 => tb σ H1 fun xs H2 => Q (x :: xs) H2
  refine bindEA (fun Q' => ka env σ c μ Q' I en) q fun x μ1 v c1 s1 I1 r1 q1 => ?_
  refine bindAA (fun Q' => kb env σ c1 μ1 Q' I1 (en.step s1)) q1 fun l μ2 vs c2 s2 I2 r2 q2 => ?_
  exact q2 _ c2 I2.step I2 (.cons (s2.rep r1) r2)
def dTup (ds : DA) : DE := fun env μ => (ds env μ).bind fun l μ1 => if l.length ≤ 100000 then .ok (.tup l) μ1 else .stuck
def dLst (ds : DA) : DE := fun env μ => (ds env μ).bind fun l μ1 => if l.length ≤ 100000 then .ok (.lst l) μ1 else .stuck
theorem pd_tup (ha : PDA X S W es ds) : PDE X S W (.Tuple es k pos) (dTup ds) := by
  obtain ⟨ta, pa, ka⟩ := ha.ex
  refine ⟨_, pe_tup pa, fun env σ c μ Q I en q => ?_⟩
  show ta σ c.H fun xs H1 => xs.length ≤ sizeLine ∧ ∀ p, H1 p = none → Q (.ref p) (upd H1 p (.tup xs))
  refine bindAE (fun Q' => ka env σ c μ Q' I en) q fun l μ1 vs c1 s1 I1 r1 q1 => ?_
  by_cases h : l.length ≤ 100000
  · rw [if_pos h] at q1
    exact ⟨by rw [← r1.len]; exact sz_of h, fun p hp => new_tup I1 r1 q1 hp⟩
  · rw [if_neg h] at q1; exact q1.elim
theorem pd_lst (ha : PDA X S W es ds) : PDE X S W (.List es pos) (dLst ds) := by
  obtain ⟨ta, pa, ka⟩ := ha.ex
  refine ⟨_, pe_lst pa, fun env σ c μ Q I en q => ?_⟩
  show ta σ c.H fun xs H1 => xs.length ≤ sizeLine ∧ ∀ p, H1 p = none → Q (.ref p) (upd H1 p (.lst xs))
  refine bindAE (fun Q' => ka env σ c μ Q' I en) q fun l μ1 vs c1 s1 I1 r1 q1 => ?_
  by_cases h : l.length ≤ 100000
  · rw [if_pos h] at q1
    exact ⟨by rw [← r1.len]; exact sz_of h, fun p hp => new_lst I1 r1 q1 hp⟩
  · rw [if_neg h] at q1; exact q1.elim
/-! ### subscripts -/
def strAt (z : Str) (i : Int) : Option D := match atI z.cps.toList i with
  | some c => some (.str ⟨#[c]⟩)
  | none => none
def opIx (μ : List M) : D → D → Option D
  | .str z, .int i => if z.length ≤ 100000 then strAt z i else none
  | x, .int i => match seqOf μ x with
    | some l => atI l i
    | none => none
  | _, _ => none
theorem atI_reps {io : List Addr} {F : Hp} {l : List D} {xs : List V} {i : Int} {d : D} (r : reps S io F l xs) (h : atI l i = some d) : ∃ x, atI xs i = some x ∧ rep S io F d x := by
  unfold atI at h ⊢
  rw [← r.len]
  cases e : ixN l.length i with
  | none => rw [e] at h; cases h
  | some j =>
    rw [e] at h
    exact r.get h
theorem okS_at {z : Str} {i : Int} {c : Nat} (h : okS z = true) (e : atI z.cps.toList i = some c) : okS ⟨#[c]⟩ = true := by
  unfold atI at e
  cases q : ixN z.cps.toList.length i with
  | none => rw [q] at e; cases e
  | some j =>
    rw [q] at e
    have m : c ∈ z.cps.toList := List.mem_of_getElem? e
    unfold okS at h ⊢
    rw [← Array.all_toList] at h
    have := List.all_eq_true.mp h c m
    simp only [Array.all_eq_true] 
    intro i hi
    simp at hi
    subst hi
    simpa using this
theorem pd_ix (hK : X.K = S.K) (ha : PDE X S W a da) (hb : PDE X S W b db) (hs : PlainIx b) : PDE X S W (.Subscript a b pos) (dOp opIx da db) := by
  obtain ⟨ta, pa, ka⟩ := ha.ex
  obtain ⟨tb, pb, kb⟩ := hb.ex
  have un : IxR X (fun x y H Q => rIxL X.K x y H Q ∨ rIxT X.K x y H Q ∨ rIxS x y H Q) := by
    intro value slice pins s σ H x y v u Q I rx ry h hs
    rcases h with h | h | h
    · exact ix_list value slice pins s σ H x y v u Q I rx ry h hs
    · exact ix_tup value slice pins s σ H x y v u Q I rx ry h hs
    · exact ix_str value slice pins s σ H x y v u Q I rx ry h hs
  refine ⟨_, pe_ix un pa pb hs, op_run (fun c μ x y d1 d2 d Q I r1 r2 e k => ?_) ka kb⟩
  have sq : ∀ {i : Int}, rep S c.io c.F (.int i) y → (match seqOf μ d1 with
    | some l => atI l i
    | none => none) = some d → rIxL X.K x y c.H Q ∨ rIxT X.K x y c.H Q ∨ rIxS x y c.H Q := fun {i} r2 e => by
    cases e1 : seqOf μ d1 with
    | none => rw [e1] at e; cases e
    | some l =>
      rw [e1] at e
      obtain ⟨p, xs, rfl, h2, h3⟩ := seq_at I r1 e1
      obtain ⟨z, h4, h5⟩ := atI_reps h3 e
      rw [rep_int.mp r2]
      rcases h2 with h2 | h2
      · exact Or.inl ⟨p, xs, i, z, rfl, rfl, by rw [hK]; exact h2, h4, k _ c I.step I h5⟩
      · exact Or.inr (Or.inl ⟨p, xs, i, z, rfl, rfl, by rw [hK]; exact h2, h4, k _ c I.step I h5⟩)
  unfold opIx at e
  split at e
  · rename_i z i
    split at e
    · rename_i hz
      unfold strAt at e
      split at e
      · rename_i cc hc
        obtain rfl := Option.some.inj e
        rw [(rep_str.mp r1).1, rep_int.mp r2]
        exact Or.inr (Or.inr ⟨z, i, cc, rfl, rfl, sz_of hz, hc, k _ c I.step I (rep_str.mpr ⟨rfl, okS_at (rep_str.mp r1).2 hc⟩)⟩)
      · cases e
    · cases e
  · exact sq r2 e
  · cases e
/-! ### slices -/
def cutL {α : Type} (xs : List α) (lo hi : Option Int) : List α := (xs.drop (HT.sIx xs.length 0 lo)).take (HT.sIx xs.length xs.length hi - HT.sIx xs.length 0 lo)
def dNoP : En → List M → Out (Option Int) := fun _ μ => .ok none μ
def dP (d : DE) : En → List M → Out (Option Int) := fun env μ => (d env μ).bind fun x μ1 => match x with
  | .int i => .ok (some i) μ1
  | _ => .stuck
def OQ (S : Sx) (W : WX) (σ : St) (c : Cf) (Q : Option Int → Hp → Prop) : Out (Option Int) → Prop
  | .ok o μ => ∀ c', Step S c c' → SI S c' μ → Q o c'.H
  | .ex x ns l μ => XQ S W σ c x ns l μ
  | .stuck => False
structure PDP (X : Cx) (S : Sx) (W : WX) (e : Option Expr) (d : En → List M → Out (Option Int)) : Prop where
  ex : ∃ t, PO X e t ∧ ∀ env σ c μ Q, SI S c μ → EnvOk S c env σ → OQ S W σ c Q (d env μ) → t σ c.H Q
theorem pdp_none : PDP X S W none dNoP := ⟨_, po_none, fun env σ c μ Q I en q => q c I.step I⟩
theorem pdp_some (h : PDE X S W e d) : PDP X S W (some e) (dP d) := by
  obtain ⟨t, p, k⟩ := h.ex
  refine ⟨_, po_some p, fun env σ c μ Q I en q => ?_⟩
  show t σ c.H fun x H1 => ∃ i, x = .int i ∧ Q (some i) H1
  have q : OQ S W σ c Q ((d env μ).bind fun x μ1 => match x with
    | .int i => .ok (some i) μ1
    | _ => .stuck) := q
  refine k env σ c μ _ I en ?_
  cases e1 : d env μ with
  | ok x μ1 =>
    rw [e1] at q
    intro v c1 s1 I1 r1
    cases x with
    | int i => exact ⟨i, rep_int.mp r1, q c1 s1 I1⟩
    | _ => exact False.elim q
  | ex x ns l μ1 => rw [e1] at q; exact q
  | stuck => rw [e1] at q; exact q
def slc (μ : List M) (lo hi : Option Int) : D → Option D
  | .str z => if z.length ≤ 100000 then some (.str (cutS z lo hi)) else none
  | .tup l => if HT.sIx l.length 0 lo = 0 ∧ HT.sIx l.length l.length hi = l.length then none else some (.tup (cutL l lo hi))
  | x => match seqOf μ x with
    | some l => some (.lst (cutL l lo hi))
    | none => none
def dSlc (da : DE) (dl dh : En → List M → Out (Option Int)) : DE := fun env μ => (da env μ).bind fun x μ1 => (dl env μ1).bind fun lo μ2 => (dh env μ2).bind fun hi μ3 => match slc μ3 lo hi x with
  | some d => .ok d μ3
  | none => .stuck
theorem bindOE {σ : St} {c : Cf} {Q : VK} {t : TO} {R : Option Int → Hp → Prop} {o : Out (Option Int)} {f : Option Int → List M → Out D}
    (h : ∀ Q, OQ S W σ c Q o → t σ c.H Q) (k : EQ S W σ c Q (o.bind f)) (g : ∀ x μ c', Step S c c' → SI S c' μ → EQ S W σ c' Q (f x μ) → R x c'.H) : t σ c.H R := by
  refine h _ ?_
  cases o with
  | ok x μ => exact fun c' s I => g x μ c' s I (EQ.step s k)
  | ex x ns l μ => exact k
  | stuck => exact k
theorem okS_cut {z : Str} {lo hi : Option Int} (h : okS z = true) : okS (cutS z lo hi) = true := by
  unfold okS cutS at *
  rw [← Array.all_toList] at h ⊢
  rw [List.all_eq_true] at h ⊢
  intro x hx
  exact h x (List.mem_of_mem_drop (List.mem_of_mem_take (by simpa using hx)))
theorem pd_slc {lo hi : Option Expr} {p2 : Pos} {dl dh : En → List M → Out (Option Int)} (hK : X.K = S.K) (ha : PDE X S W a da) (hl : PDP X S W lo dl) (hh : PDP X S W hi dh) : PDE X S W (.Subscript a (.Slice lo hi none p2) pos) (dSlc da dl dh) := by
  obtain ⟨ta, pa, ka⟩ := ha.ex
  obtain ⟨tl, pl, kl⟩ := hl.ex
  obtain ⟨th, ph, kh⟩ := hh.ex
  have un : SlR X (fun x l h H Q => rSlL X.K x l h H Q ∨ rSlT X.K x l h H Q ∨ rSlS x l h H Q) := by
    intro pins s σ H x v vl vu lo hi sl Q I rx hs pl pu h
    rcases h with h | h | h
    · exact sl_list pins s σ H x v vl vu lo hi sl Q I rx hs pl pu h
    · exact sl_tup pins s σ H x v vl vu lo hi sl Q I rx hs pl pu h
    · exact sl_str pins s σ H x v vl vu lo hi sl Q I rx hs pl pu h
  refine ⟨_, pe_slice un pa pl ph, fun env σ c μ Q I en q => ?_⟩
  refine (show ta σ c.H fun x H1 => tl σ H1 fun l H2 => th σ H2 fun u H3 => rSlL X.K x l u H3 Q ∨ rSlT X.K x l u H3 Q ∨ rSlS x l u H3 Q from ?_)
  refine bindE (fun Q' => ka env σ c μ Q' I en) q fun x μ1 v c1 s1 I1 r1 q1 => ?_
  refine bindOE (fun Q' => kl env σ c1 μ1 Q' I1 (en.step s1)) q1 fun lo μ2 c2 s2 I2 q2 => ?_
  refine bindOE (fun Q' => kh env σ c2 μ2 Q' I2 ((en.step s1).step s2)) q2 fun hi μ3 c3 s3 I3 q3 => ?_
  have r3 := s3.rep (s2.rep r1)
  have ls : ∀ l, lstOf μ3 x = some l ∨ (∃ ns, x = .scr ns ∧ l = ns.map D.int) → EQ S W σ c3 Q (.ok (.lst (cutL l lo hi)) μ3) → rSlL X.K v lo hi c3.H Q := fun l hl q3 => by
    have go : ∀ p xs, v = .ref p → SqL S.K c3.H p xs → reps S c3.io c3.F l xs → rSlL X.K v lo hi c3.H Q := fun p xs ev hx r => by
      refine ⟨p, xs, ev, by rw [hK]; exact hx, fun z hz => new_lst I3 ?_ q3 hz⟩
      unfold cutL
      rw [r.len]
      exact (r.drop _).take _
    rcases hl with hl | ⟨ns, rfl, rfl⟩
    · obtain ⟨p, xs, ev, h2, h3⟩ := lst_at I3 r3 hl
      exact go p xs ev (sq_of h2) h3
    · unfold rep at r3
      obtain ⟨p, ev, h2⟩ := r3
      exact go p _ ev (ex_l I3.ex h2) (reps_ints ns)
  cases x with
  | str z =>
    dsimp only [slc] at q3
    by_cases hz : z.length ≤ 100000
    · rw [if_pos hz] at q3
      refine Or.inr (Or.inr ⟨z, (rep_str.mp r3).1, sz_of hz, q3 _ c3 I3.step I3 (rep_str.mpr ⟨rfl, okS_cut (rep_str.mp r3).2⟩)⟩)
    · rw [if_neg hz] at q3; exact False.elim q3
  | tup l =>
    dsimp only [slc] at q3
    by_cases hz : HT.sIx l.length 0 lo = 0 ∧ HT.sIx l.length l.length hi = l.length
    · rw [if_pos hz] at q3; exact False.elim q3
    · rw [if_neg hz] at q3
      unfold rep at r3
      obtain ⟨p, xs, ev, h2, h3⟩ := r3
      refine Or.inr (Or.inl ⟨p, xs, ev, by rw [hK]; exact ex_t I3.ex h2, by rw [← h3.len]; exact hz, fun z hz => new_tup I3 ?_ q3 hz⟩)
      unfold cutL
      rw [h3.len]
      exact (h3.drop _).take _
  | lst l => exact Or.inl (ls l (Or.inl rfl) q3)
  | cel i =>
    dsimp only [slc, seqOf] at q3
    cases e : μ3[i]? with
    | none => rw [e] at q3; exact False.elim q3
    | some m =>
      rw [e] at q3
      cases m with
      | lst l => exact Or.inl (ls l (Or.inl (by dsimp only [lstOf]; rw [e])) q3)
      | _ => exact False.elim q3
  | scr ns => exact Or.inl (ls _ (Or.inr ⟨ns, rfl, rfl⟩) q3)
  | _ => exact False.elim q3
/-- xs[::-1] -/
def dRev (da : DE) : DE := fun env μ => (da env μ).bind fun x μ1 => match lstOf μ1 x with
  | some l => .ok (.lst l.reverse) μ1
  | none => .stuck
theorem pd_rev {kk : Nat} {p1 p2 p3 : Pos} (hK : X.K = S.K) (ha : PDE X S W a da) : PDE X S W (.Subscript a (.Slice none none (some (.UnaryOp .USub (.Constant (.int 1) kk p1) p2)) p3) pos) (dRev da) := by
  obtain ⟨ta, pa, ka⟩ := ha.ex
  refine ⟨_, pe_revL pa, fun env σ c μ Q I en q => ?_⟩
  refine (show ta σ c.H fun x H1 => ∃ a xs, x = .ref a ∧ SqL X.K H1 a xs ∧ ∀ p, H1 p = none → Q (.ref p) (upd H1 p (.lst xs.reverse)) from ?_)
  refine bindE (fun Q' => ka env σ c μ Q' I en) q fun x μ1 v c1 s1 I1 r1 q1 => ?_
  cases e : lstOf μ1 x with
  | none => rw [e] at q1; exact False.elim q1
  | some l =>
    rw [e] at q1
    obtain ⟨p, xs, rfl, h2, h3⟩ := lst_at I1 r1 e
    exact ⟨p, xs, rfl, by rw [hK]; exact sq_of h2, fun z hz => new_lst I1 h3.reverse q1 hz⟩
/-! ### fields -/
def fldOf (f : Str) : List Str → List D → Option D
  | n :: ns, d :: l => if f = n then some d else fldOf f ns l
  | _, _ => none
def fldAt (μ : List M) (f : Str) : D → Option D
  | .obj _ ns l => fldOf f ns l
  | .cel i => match μ[i]? with
    | some (.obj _ ns l) => fldOf f ns l
    | _ => none
  | _ => none
def clsAt (μ : List M) : D → Option Str
  | .obj c _ _ => some c
  | .cel i => match μ[i]? with
    | some (.obj c _ _) => some c
    | _ => none
  | _ => none
theorem fld_reps {io : List Addr} {F : Hp} {f : Str} : ∀ {fs : List (Str × V)} {ns : List Str} {l : List D} {d : D}, fs.map (·.1) = ns → reps S io F l (fs.map (·.2)) → fldOf f ns l = some d → ∃ v, fs.lookup f = some v ∧ rep S io F d v
  | [], ns, l, d, e, r, h => by subst e; cases l <;> cases h
  | (n, v) :: fs, ns, l, d, e, r, h => by
    subst e
    cases l with
    | nil => cases h
    | cons d' l' =>
      obtain ⟨x, q, e1, r1, r2⟩ := r.uncons
      cases e1
      by_cases hf : f = n
      · have h' : (if f = n then some d' else fldOf f (fs.map (·.1)) l') = some d := h
        rw [if_pos hf] at h'
        cases h'
        exact ⟨v, by rw [List.lookup_cons, hf]; simp, r1⟩
      · have h' : (if f = n then some d' else fldOf f (fs.map (·.1)) l') = some d := h
        rw [if_neg hf] at h'
        obtain ⟨u, k1, k2⟩ := fld_reps rfl r2 h'
        refine ⟨u, ?_, k2⟩
        have hb : (f == n) = false := by simpa using hf
        rw [List.lookup_cons, hb]
        exact k1
/-- an instance, frozen or a cell -/
theorem obj_at {c : Cf} {μ : List M} {d : D} {v : V} {cl : Str} (I : SI S c μ) (r : rep S c.io c.F d v) (h : clsAt μ d = some cl) :
    ∃ a dx fs ns l, v = .ref a ∧ c.H a = some (.ins (S.A cl) dx fs) ∧ fs.map (·.1) = ns ∧ reps S c.io c.F l (fs.map (·.2)) ∧ (∀ f, fldAt μ f d = fldOf f ns l) ∧ cl ∈ S.cls := by
  cases d with
  | obj cl' ns l =>
    cases (show some cl' = some cl from h)
    unfold rep at r
    obtain ⟨a, dx, fs, h1, h2, h3, h4, h5⟩ := r
    exact ⟨a, dx, fs, ns, l, h1, I.ex _ _ h2, h3, h4, fun f => rfl, h5⟩
  | cel i =>
    unfold rep at r
    obtain ⟨a, h1, h2⟩ := r
    dsimp only [clsAt] at h
    cases e : μ[i]? with
    | none => rw [e] at h; cases h
    | some m =>
      rw [e] at h
      cases m with
      | obj cl' ns l =>
        cases (show some cl' = some cl from h)
        obtain ⟨_, dx, fs, k2, k3, k4⟩ := I.cell i a _ h2 e
        exact ⟨a, dx, fs, ns, l, h1, k2, k3, k4, fun f => by dsimp only [fldAt]; rw [e], I.cls i _ _ _ e⟩
      | _ => cases h
  | _ => cases h
/-- what is known of the own classes: their instances have plain attributes, no class has the field's name -/
def ClsOk (S : Sx) (f : Str) : Prop := ∀ c ∈ S.cls, Cls S.K (S.A c) ∧ NoAttr S.K (S.A c) f
def dFld (f : Str) (da : DE) : DE := fun env μ => (da env μ).bind fun x μ1 => match clsAt μ1 x with
  | some _ => match fldAt μ1 f x with
    | some d => .ok d μ1
    | none => .stuck
  | none => .stuck
theorem pd_fld {f : Str} (hK : X.K = S.K) (hc : ClsOk S f) (ha : PDE X S W a da) (hb : attributeBase a f X.env (eval a X.env) = eval a X.env := by rfl) : PDE X S W (.Attribute a f pos) (dFld f da) := by
  obtain ⟨ta, pa, ka⟩ := ha.ex
  refine ⟨_, pe_fld pa hb, fun env σ c μ Q I en q => ?_⟩
  refine (show ta σ c.H fun x H1 => ∃ a C dx fs v, x = .ref a ∧ H1 a = some (.ins C dx fs) ∧ Cls X.K C ∧ NoAttr X.K C f ∧ fs.lookup f = some v ∧ Q v H1 from ?_)
  refine bindE (fun Q' => ka env σ c μ Q' I en) q fun x μ1 v c1 s1 I1 r1 q1 => ?_
  cases e : clsAt μ1 x with
  | none => rw [e] at q1; exact False.elim q1
  | some cl =>
    rw [e] at q1
    cases e2 : fldAt μ1 f x with
    | none => rw [e2] at q1; exact False.elim q1
    | some d =>
      rw [e2] at q1
      obtain ⟨a, dx, fs, ns, l, rfl, h2, h3, h4, h5, hm⟩ := obj_at I1 r1 e
      rw [h5] at e2
      obtain ⟨u, k1, k2⟩ := fld_reps h3 h4 e2
      exact ⟨a, _, dx, fs, u, rfl, h2, by rw [hK]; exact (hc cl hm).1, by rw [hK]; exact (hc cl hm).2, k1, q1 u c1 I1.step I1 k2⟩
end
end DL
namespace DL
open PySem PySem.Spec PyProof.Rows L2
open Classical in
/-! ### targets -/
abbrev DG := D → En → List M → Option En
def Agree (js : List Nat) (σ σ' : St) : Prop := σ'.length = σ.length ∧ ∀ i, i ∉ js → σ'[i]? = σ[i]?
structure PDG (X : Cx) (S : Sx) (tg : Expr) (dg : DG) (js : List Nat) : Prop where
  ex : ∃ g, PG X tg g ∧ ∀ env σ c μ d v env' Q, SI S c μ → EnvOk S c env σ → rep S c.io c.F d v → dg d env μ = some env' → (∀ σ', EnvOk S c env' σ' → Agree js σ σ' → Q σ' c.H) → g v σ c.H Q
structure PDGs (X : Cx) (S : Sx) (tgs : List Expr) (dg : List D → En → List M → Option En) (js : List Nat) : Prop where
  ex : ∃ g, PGs X tgs g ∧ ∀ env σ c μ l vs env' Q, SI S c μ → EnvOk S c env σ → reps S c.io c.F l vs → dg l env μ = some env' → (∀ σ', EnvOk S c env' σ' → Agree js σ σ' → Q σ' c.H) → g vs σ c.H Q
@[simp] def gNm (i : Nat) : DG := fun d env _ => some (env.set i (some d))
def gsCons (g : DG) (gs : List D → En → List M → Option En) : List D → En → List M → Option En := fun l env μ => match l with
  | d :: l => match g d env μ with
    | some env1 => gs l env1 μ
    | none => none
  | [] => none
def gSeq (n : Nat) (gs : List D → En → List M → Option En) : DG := fun d env μ => match seqOf μ d with
  | some l => if l.length = n then gs l env μ else none
  | none => none
section
variable {X : Cx} {S : Sx} {W : WX} {a b e tg : Expr} {es : List Expr} {da db d : DE} {dt : DT} {pos : Pos} {k : Nat}
theorem Agree.trans {js js' : List Nat} {σ σ1 σ2 : St} (a : Agree js σ σ1) (b : Agree js' σ1 σ2) : Agree (js ++ js') σ σ2 :=
  ⟨b.1.trans a.1, fun i h => (b.2 i fun q => h (List.mem_append_right _ q)).trans (a.2 i fun q => h (List.mem_append_left _ q))⟩
theorem pdg_name {i : Nat} {x : Str} (hN : X.N.Nodup) (hi : X.N[i]? = some x) (hx : Loc X.env.scope x) (hf : X.fn x = true ∨ X.env.scope.names.lookup x = some .local := by first | exact .inl rfl | exact .inr rfl) : PDG X S (.Name x pos) (gNm i) [i] := by
  refine ⟨_, pg_name hN hi hx hf, fun env σ c μ d v env' Q I en r e k => ?_⟩
  cases (show some (env.set i (some d)) = some env' from e)
  exact k _ (en.set r i) ⟨List.length_set, fun j h => List.getElem?_set_ne fun z => h (by simp [z])⟩
theorem pdgs_nil : PDGs X S [] gsNil [] := by
  refine ⟨_, pgs_nil, fun env σ c μ l vs env' Q I en r e k => ?_⟩
  cases l with
  | nil =>
    cases (show some env = some env' from e)
    exact ⟨r.eq_nil, k σ en ⟨rfl, fun _ _ => rfl⟩⟩
  | cons _ _ => cases e
theorem pdgs_cons {g : DG} {gs : List D → En → List M → Option En} {js js' : List Nat} (h1 : PDG X S e g js) (h2 : PDGs X S es gs js') (hs : (assignEach (e :: es) X.env).map (·.2) = assign e X.env :: (assignEach es X.env).map (·.2) := by rfl) : PDGs X S (e :: es) (gsCons g gs) (js ++ js') := by
  obtain ⟨t1, p1, k1⟩ := h1.ex
  obtain ⟨t2, p2, k2⟩ := h2.ex
  refine ⟨_, pgs_cons p1 p2 hs, fun env σ c μ l vs env' Q I en r e k => ?_⟩
  cases l with
  | nil => cases e
  | cons d l =>
    obtain ⟨x, q, rfl, r1, r2⟩ := r.uncons
    have e : (match g d env μ with
      | some env1 => gs l env1 μ
      | none => none) = some env' := e
    cases e1 : g d env μ with
    | none => rw [e1] at e; cases e
    | some env1 =>
      rw [e1] at e
      refine ⟨x, q, rfl, k1 env σ c μ d x env1 _ I en r1 e1 fun σ1 en1 a1 => ?_⟩
      exact k2 env1 σ1 c μ l q env' _ I en1 r2 e fun σ2 en2 a2 => k σ2 en2 (a1.trans a2)
theorem pdg_tup {n : Nat} {gs : List D → En → List M → Option En} {js : List Nat} (hK : X.K = S.K) (hc : X.calm = true) (h : PDGs X S es gs js) (hn : (assignEach es X.env).length = n := by rfl) (hst : (assignEach es X.env).findIdx? (·.1) = none := by rfl) :
    PDG X S (.Tuple es k pos) (gSeq n gs) js := by
  obtain ⟨t, p, kk⟩ := h.ex
  have P1 := pg_tup (k := k) (pos := pos) hc p hn hst
  have P2 := pg_lst (k := k) (pos := pos) hc p hn hst
  refine ⟨fun v σ H Q => gTup X.K n t v σ H Q ∨ gLst X.K n t v σ H Q, ⟨fun pins s σ H v u Q I r h => ?_⟩, fun env σ c μ d v env' Q I en r e k => ?_⟩
  · rcases h with h | h
    · exact P1.run pins s σ H v u Q I r h
    · exact P2.run pins s σ H v u Q I r h
  · have e : (match seqOf μ d with
      | some l => if l.length = n then gs l env μ else none
      | none => none) = some env' := e
    cases e1 : seqOf μ d with
    | none => rw [e1] at e; cases e
    | some l =>
      rw [e1] at e
      dsimp only at e
      by_cases hl : l.length = n
      · rw [if_pos hl] at e
        obtain ⟨a, xs, rfl, h2, h3⟩ := seq_at I r e1
        have hx : xs.length = n := by rw [← h3.len]; exact hl
        have fin := kk env σ c μ l xs env' Q I en h3 e k
        rcases h2 with h2 | h2
        · exact Or.inr ⟨a, xs, rfl, by rw [hK]; exact h2, hx, fin⟩
        · exact Or.inl ⟨a, xs, rfl, by rw [hK]; exact h2, hx, fin⟩
      · rw [if_neg hl] at e; cases e
/-! ### what is walked -/
structure WalkD (S : Sx) (J : It) (l : List D) (g : List M → Prop) (c : Cf) : Prop where
  ex : ∃ G Y, Walk J l.length G Y ∧ (∀ c2 μ2, Step S c c2 → SI S c2 μ2 → g μ2 → G c2.H) ∧
    ∀ i x H' c2 μ2, i < l.length → Step S c c2 → SI S c2 μ2 → g μ2 → Y i c2.H x H' → ∃ c3 d, c3.H = H' ∧ Step S c2 c3 ∧ SI S c3 μ2 ∧ l[i]? = some d ∧ rep S c3.io c3.F d x
theorem WalkD.step {J : It} {l : List D} {g : List M → Prop} {c c' : Cf} (w : WalkD S J l g c) (s : Step S c c') : WalkD S J l g c' := by
  obtain ⟨G, Y, w1, w2, w3⟩ := w.ex
  exact ⟨G, Y, w1, fun c2 μ2 s2 => w2 c2 μ2 (s.trans s2), fun i x H' c2 μ2 hi s2 => w3 i x H' c2 μ2 hi (s.trans s2)⟩
abbrev DI := En → List M → Out (List D × (List M → Prop))
def IQ (S : Sx) (W : WX) (σ : St) (c : Cf) (R : It → Hp → Prop) : Out (List D × (List M → Prop)) → Prop
  | .ok lg μ => ∀ J c', Step S c c' → SI S c' μ → WalkD S J lg.1 lg.2 c' → R J c'.H
  | .ex x ns l μ => XQ S W σ c x ns l μ
  | .stuck => False
structure PDI (X : Cx) (S : Sx) (W : WX) (tg iter : Expr) (di : DI) : Prop where
  ex : ∃ wi, PI X tg iter wi ∧ ∀ env σ c μ R, SI S c μ → EnvOk S c env σ → IQ S W σ c R (di env μ) → wi σ c.H R
/-- over a list -/
def iSeq (da : DE) : DI := fun env μ => (da env μ).bind fun x μ1 => match x with
  | .tup _ => .stuck
  | _ => match seqOf μ1 x with
    | some l => .ok (l, fun μ2 => seqOf μ2 x = some l) μ1
    | none => .stuck
/-- over a tuple -/
def iTupD (da : DE) : DI := fun env μ => (da env μ).bind fun x μ1 => match x with
  | .tup l => .ok (l, fun _ => True) μ1
  | _ => .stuck
theorem bindEI {σ : St} {c : Cf} {Q : It → Hp → Prop} {t : TE} {R : V → Hp → Prop} {o : Out D} {f : D → List M → Out (List D × (List M → Prop))}
    (h : ∀ Q, EQ S W σ c Q o → t σ c.H Q) (k : IQ S W σ c Q (o.bind f)) (g : ∀ x μ v c', Step S c c' → SI S c' μ → rep S c'.io c'.F x v → IQ S W σ c' Q (f x μ) → R v c'.H) : t σ c.H R := by
  refine h _ ?_
  cases o with
  | ok x μ =>
    have k : IQ S W σ c Q (f x μ) := k
    refine fun v c' s I r => g x μ v c' s I r ?_
    cases e : f x μ with
    | ok lg μ2 => rw [e] at k; exact fun J c2 s2 => k J c2 (s.trans s2)
    | ex x ns l μ2 => rw [e] at k; exact XQ.step s k
    | stuck => rw [e] at k; exact k
  | ex x ns l μ => exact k
  | stuck => exact k
/-- where a datum's items are read off a list -/
theorem seq_same {c : Cf} {μ : List M} {d : D} {v : V} {l : List D} (I : SI S c μ) (r : rep S c.io c.F d v) (h : seqOf μ d = some l) (hl : ∀ t, d ≠ .tup t) : ∃ a xs, v = .ref a ∧ SqL S.K c.H a xs ∧ reps S c.io c.F l xs := by
  cases d with
  | tup t => exact absurd rfl (hl t)
  | lst l' =>
    obtain ⟨a, xs, h1, h2, h3⟩ := lst_at I r (show lstOf μ (.lst l') = some l from h)
    exact ⟨a, xs, h1, sq_of h2, h3⟩
  | cel i =>
    obtain ⟨a, xs, h1, h2, h3⟩ := lst_at I r (show lstOf μ (.cel i) = some l from h)
    exact ⟨a, xs, h1, sq_of h2, h3⟩
  | scr ns =>
    unfold rep at r
    obtain ⟨a, h1, h2⟩ := r
    cases (show some (ns.map D.int) = some l from h)
    exact ⟨a, _, h1, ex_l I.ex h2, reps_ints ns⟩
  | _ => cases h
theorem Itl_walk {K : PySem.W.Frag} {a : Addr} {n : Nat} : Walk (Itl K a) n (fun H => ∃ xs, SqL K H a xs ∧ xs.length = n) (fun i H x H' => H' = H ∧ ∀ xs, SqL K H a xs → xs[i]? = some x) :=
  ⟨fun i _ hi ⟨xs, q, e⟩ => ⟨xs, xs[i]'(by omega), q, by simp⟩, fun _ ⟨xs, q, e⟩ => ⟨xs, q, Nat.le_of_eq e⟩, fun _ _ _ _ _ _ y => ⟨y.1, y.2⟩⟩
theorem Itt_walk {K : PySem.W.Frag} {a : Addr} {n : Nat} : Walk (Itt K a) n (fun H => ∃ xs, SqT K H a xs ∧ xs.length = n) (fun i H x H' => H' = H ∧ ∀ xs, SqT K H a xs → xs[i]? = some x) :=
  ⟨fun i _ hi ⟨xs, q, e⟩ => ⟨xs, xs[i]'(by omega), q, by simp⟩, fun _ ⟨xs, q, e⟩ => ⟨xs, q, Nat.le_of_eq e⟩, fun _ _ _ _ _ _ y => ⟨y.1, y.2⟩⟩
theorem pdi_tup (hK : X.K = S.K) (ha : PDE X S W a da) : PDI X S W tg a (iTupD da) := by
  obtain ⟨ta, pa, ka⟩ := ha.ex
  refine ⟨_, pi_tup pa, fun env σ c μ R I en q => ?_⟩
  refine (show ta σ c.H fun x H1 => ∃ a, x = .ref a ∧ (∃ xs, SqT X.K H1 a xs) ∧ R (Itt X.K a) H1 from ?_)
  refine bindEI (fun Q' => ka env σ c μ Q' I en) q fun x μ1 v c1 s1 I1 r1 q1 => ?_
  cases x with
  | tup l =>
    have r1' := r1
    unfold rep at r1
    obtain ⟨p, xs, rfl, h2, h3⟩ := r1
    rw [hK]
    refine ⟨p, rfl, ⟨xs, ex_t I1.ex h2⟩, q1 _ c1 I1.step I1 ⟨_, _, Itt_walk, fun c2 μ2 s2 I2 _ => ⟨xs, ex_t I2.ex (ex_t s2.exF h2), h3.len.symm⟩, fun i x H' c2 μ2 hi s2 I2 _ y => ?_⟩⟩
    obtain ⟨rfl, y⟩ := y
    have hx := y xs (ex_t I2.ex (ex_t s2.exF h2))
    obtain ⟨d, k1, k2⟩ := h3.getV hx
    exact ⟨c2, d, rfl, I2.step, I2, k1, s2.rep k2⟩
  | _ => exact False.elim q1
theorem pdi_seq (hK : X.K = S.K) (ha : PDE X S W a da) : PDI X S W tg a (iSeq da) := by
  obtain ⟨ta, pa, ka⟩ := ha.ex
  refine ⟨_, pi_list pa, fun env σ c μ R I en q => ?_⟩
  refine (show ta σ c.H fun x H1 => ∃ a, x = .ref a ∧ (∃ xs, SqL X.K H1 a xs) ∧ R (Itl X.K a) H1 from ?_)
  refine bindEI (fun Q' => ka env σ c μ Q' I en) q fun x μ1 v c1 s1 I1 r1 q1 => ?_
  have go : ∀ l, seqOf μ1 x = some l → (∀ t, x ≠ .tup t) → IQ S W σ c1 R (.ok (l, fun μ2 => seqOf μ2 x = some l) μ1) → ∃ a, v = .ref a ∧ (∃ xs, SqL X.K c1.H a xs) ∧ R (Itl X.K a) c1.H := fun l e1 nt q1 => by
    obtain ⟨p, xs, rfl, h2, h3⟩ := seq_same I1 r1 e1 nt
    rw [hK]
    refine ⟨p, rfl, ⟨xs, h2⟩, q1 _ c1 I1.step I1 ⟨_, _, Itl_walk, fun c2 μ2 s2 I2 e2 => ?_, fun i x2 H' c2 μ2 hi s2 I2 e2 y => ?_⟩⟩
    · obtain ⟨p2, ys, ep, k2, k3⟩ := seq_same I2 (s2.rep r1) e2 nt
      cases ep
      exact ⟨ys, k2, k3.len.symm⟩
    · obtain ⟨rfl, y⟩ := y
      obtain ⟨p2, ys, ep, k2, k3⟩ := seq_same I2 (s2.rep r1) e2 nt
      cases ep
      obtain ⟨d, m1, m2⟩ := k3.getV (y ys k2)
      exact ⟨c2, d, rfl, I2.step, I2, m1, m2⟩
  cases x with
  | tup l => exact False.elim q1
  | lst l => exact go l rfl (fun _ z => nomatch z) q1
  | scr ns => exact go _ rfl (fun _ z => nomatch z) q1
  | cel i =>
    cases e : seqOf μ1 (.cel i) with
    | none =>
      dsimp only at q1
      rw [e] at q1; exact False.elim q1
    | some l =>
      dsimp only at q1
      rw [e] at q1; exact go l e (fun _ z => nomatch z) q1
  | _ => exact False.elim q1
/-- over a text's signs -/
def signs (z : Str) : List D := z.cps.toList.map fun n => D.str ⟨#[n]⟩
def iStrD (da : DE) : DI := fun env μ => (da env μ).bind fun x μ1 => match x with
  | .str z => .ok (signs z, fun _ => True) μ1
  | _ => .stuck
theorem okS_mem {z : Str} {n : Nat} (h : okS z = true) (m : n ∈ z.cps.toList) : okS ⟨#[n]⟩ = true := by
  unfold okS at h ⊢
  rw [← Array.all_toList] at h ⊢
  have := List.all_eq_true.mp h n m
  simpa using this
theorem pdi_str (ha : PDE X S W a da) : PDI X S W tg a (iStrD da) := by
  obtain ⟨ta, pa, ka⟩ := ha.ex
  refine ⟨_, pi_str pa, fun env σ c μ R I en q => ?_⟩
  refine (show ta σ c.H fun v H1 => ∃ x, v = .str x ∧ R (Its x) H1 from ?_)
  refine bindEI (fun Q' => ka env σ c μ Q' I en) q fun x μ1 v c1 s1 I1 r1 q1 => ?_
  cases x with
  | str z =>
    have hz : (signs z).length = z.cps.size := by unfold signs; rw [List.length_map, Array.length_toList]
    refine ⟨z, (rep_str.mp r1).1, q1 _ c1 I1.step I1 ⟨_, _, by rw [show (signs z, fun _ => True).1 = signs z from rfl, hz]; exact walk_str, fun _ _ _ _ _ => trivial, fun i x H' c2 μ2 hi s2 I2 _ y => ?_⟩⟩
    obtain ⟨rfl, n, hn, rfl⟩ := y
    have hn' : z.cps.toList[i]? = some n := by rw [Array.getElem?_toList]; exact hn
    refine ⟨c2, .str ⟨#[n]⟩, rfl, I2.step, I2, ?_, rep_str.mpr ⟨rfl, okS_mem (rep_str.mp r1).2 (List.mem_of_getElem? hn')⟩⟩
    show (signs z)[i]? = _
    unfold signs
    rw [List.getElem?_map, hn']; rfl
  | _ => exact False.elim q1
/-- over range(n), range(a, b) -/
def iota (lo : Int) (n : Nat) : List D := (List.range n).map fun i => D.int (lo + (i : Nat))
def iRng (ds : DA) : DI := fun env μ => (ds env μ).bind fun l μ1 => match l with
  | [.int n] => if -(2 ^ 62) ≤ n ∧ n < 2 ^ 62 then .ok (iota 0 n.toNat, fun _ => True) μ1 else .stuck
  | _ => .stuck
def iRngTwo (ds : DA) : DI := fun env μ => (ds env μ).bind fun l μ1 => match l with
  | [.int a, .int b] => if -(2 ^ 62) ≤ a ∧ a < 2 ^ 62 ∧ -(2 ^ 62) ≤ b ∧ b < 2 ^ 62 then .ok (iota a (b - a).toNat, fun _ => True) μ1 else .stuck
  | _ => .stuck
theorem walkD_iota {lo : Int} {n : Nat} {c : Cf} : WalkD S (Itr lo n) (iota lo n) (fun _ => True) c := by
  have hz : (iota lo n).length = n := by unfold iota; rw [List.length_map, List.length_range]
  refine ⟨_, _, by rw [hz]; exact walk_range, fun _ _ _ _ _ => trivial, fun i x H' c2 μ2 hi s2 I2 _ y => ?_⟩
  obtain ⟨rfl, rfl⟩ := y
  refine ⟨c2, .int (lo + (i : Nat)), rfl, I2.step, I2, ?_, rep_int.mpr rfl⟩
  rw [hz] at hi
  unfold iota
  rw [List.getElem?_map, List.getElem?_range hi]; rfl
theorem bindAI {σ : St} {c : Cf} {Q : It → Hp → Prop} {t : TA} {R : List V → Hp → Prop} {o : Out (List D)} {f : List D → List M → Out (List D × (List M → Prop))}
    (h : ∀ Q, AQ S W σ c Q o → t σ c.H Q) (k : IQ S W σ c Q (o.bind f)) (g : ∀ x μ v c', Step S c c' → SI S c' μ → reps S c'.io c'.F x v → IQ S W σ c' Q (f x μ) → R v c'.H) : t σ c.H R := by
  refine h _ ?_
  cases o with
  | ok x μ =>
    have k : IQ S W σ c Q (f x μ) := k
    refine fun v c' s I r => g x μ v c' s I r ?_
    cases e : f x μ with
    | ok lg μ2 => rw [e] at k; exact fun J c2 s2 => k J c2 (s.trans s2)
    | ex x ns l μ2 => rw [e] at k; exact XQ.step s k
    | stuck => rw [e] at k; exact k
  | ex x ns l μ => exact k
  | stuck => exact k
variable {ds : DA}
theorem pdi_range1 {p : Pos} (hg : Gl X "range") (hm : X.mg "range" = none) (ha : PDA X S W [a] ds) (hs : starEach [a] X.env = [(false, eval a X.env)] := by rfl) : PDI X S W tg (.Call (.Name "range" p) [a] [] pos) (iRng ds) := by
  obtain ⟨ta, pa, ka⟩ := ha.ex
  refine ⟨_, pi_range1 hg hm pa hs, fun env σ c μ R I en q => ?_⟩
  refine (show ta σ c.H fun vs H1 => ∃ j : Int, vs = [.int j] ∧ -(2 ^ 62) ≤ j ∧ j < 2 ^ 62 ∧ R (Itr 0 j.toNat) H1 from ?_)
  refine bindAI (fun Q' => ka env σ c μ Q' I en) q fun x μ1 v c1 s1 I1 r1 q1 => ?_
  split at q1
  · rename_i n
    by_cases h : -(2 ^ 62) ≤ n ∧ n < 2 ^ 62
    · rw [if_pos h] at q1
      obtain ⟨y, r, rfl, h1, h2⟩ := r1.uncons
      rw [h2.eq_nil, rep_int.mp h1]
      exact ⟨n, rfl, h.1, h.2, q1 _ c1 I1.step I1 walkD_iota⟩
    · rw [if_neg h] at q1; exact False.elim q1
  · exact False.elim q1
/-! ### for -/
noncomputable def forGo (g : List M → Prop) (tg : DG) (body : DS) : List D → En → List M → SO
  | [], env, μ => if guard g μ = true then .nx env μ else .stuck
  | x :: xs, env, μ => if guard g μ = true then match tg x env μ with
    | some env1 => match body env1 μ with
      | .nx e m => forGo g tg body xs e m
      | .ct e m => forGo g tg body xs e m
      | .bk e m => .nx e m
      | o => o
    | none => .stuck
    else .stuck
noncomputable def dFor (di : DI) (tg : DG) (body : DS) : DS := fun env μ => (di env μ).bindS env fun lg μ1 => forGo lg.2 tg body lg.1 env μ1
theorem pds_for {iter : Expr} {body : List Stmt} {di : DI} {dg : DG} {db : DS} {js : List Nat} (hp : PassesOwn (model X.prog X.w) X.A X.env X.xe) (hc : X.calm = true) (hi : PDI X S W tg iter di) (hg : PDG X S tg dg js) (hb : PDSs X S W body db)
    (hs : ∀ x, foldedSetIterable iter X.env x = pure x := by intro _; rfl) : PDS X S W (.For tg iter body [] pos) (dFor di dg db) := by
  obtain ⟨wi, pi, ki⟩ := hi.ex
  obtain ⟨g, pg, kg⟩ := hg.ex
  obtain ⟨tb, pb, kb⟩ := hb.ex
  refine ⟨_, ps_for hp hc pi pg pb hs, fun env σ c μ E I en q => ?_⟩
  have q : SQ S W c E ((di env μ).bindS env fun lg μ1 => forGo lg.2 dg db lg.1 env μ1) := q
  refine ki env σ c μ _ I en ?_
  cases e : di env μ with
  | stuck => rw [e] at q; exact q
  | ex x ns l μ1 =>
    rw [e] at q
    exact fun dd c' s I' r => q dd σ c' s I' (en.step s) r
  | ok lg μ1 =>
    obtain ⟨l, gd⟩ := lg
    rw [e] at q
    have q : SQ S W c E (forGo gd dg db l env μ1) := q
    intro J c1 s1 I1 w
    obtain ⟨G, Y, w1, w2, w3⟩ := w.ex
    refine for_it w1 (fun i σ' H' => ∃ env' c' μ', c'.H = H' ∧ Step S c1 c' ∧ SI S c' μ' ∧ EnvOk S c' env' σ' ∧ SQ S W c' E (forGo gd dg db (l.drop i) env' μ')) ?_ ?_ ?_ ?_
    · exact ⟨env, c1, μ1, rfl, I1.step, I1, en.step s1, q.step s1⟩
    · rintro i σ' H' hi ⟨env', c', μ', rfl, s', I', en', q'⟩
      refine w2 c' μ' s' I' ?_
      cases ed : l.drop i with
      | nil =>
        rw [ed] at q'
        unfold forGo at q'
        by_cases h : guard gd μ' = true
        · exact guard_iff.mp h
        · rw [if_neg h] at q'; exact False.elim q'
      | cons d r =>
        rw [ed] at q'
        unfold forGo at q'
        by_cases h : guard gd μ' = true
        · exact guard_iff.mp h
        · rw [if_neg h] at q'; exact False.elim q'
    · rintro i x σ' H' H2 hi ⟨env', c', μ', rfl, s', I', en', q'⟩ y
      have ed : l.drop i = l[i] :: l.drop (i + 1) := List.drop_eq_getElem_cons hi
      rw [ed] at q'
      unfold forGo at q'
      by_cases h : guard gd μ' = true
      · rw [if_pos h] at q'
        obtain ⟨c3, d, rfl, s3, I3, e3, r3⟩ := w3 i x H2 c' μ' hi s' I' (guard_iff.mp h) y
        rw [List.getElem?_eq_getElem hi] at e3
        rw [Option.some.inj e3] at q'
        cases et : dg d env' μ' with
        | none => rw [et] at q'; exact False.elim q'
        | some env1 =>
          rw [et] at q'
          dsimp only at q'
          refine kg env' σ' c3 μ' d x env1 _ I3 (en'.step s3) r3 et fun σ1 en1 _ => ?_
          refine kb env1 σ1 c3 μ' _ I3 en1 ?_
          have q' := SQ.step s3 q'
          cases eb : db env1 μ' with
          | nx e m =>
            rw [eb] at q'
            exact fun σ4 c4 s4 I4 en4 => ⟨e, c4, m, rfl, (s'.trans s3).trans s4, I4, en4, q'.step s4⟩
          | ct e m =>
            rw [eb] at q'
            exact fun σ4 c4 s4 I4 en4 => ⟨e, c4, m, rfl, (s'.trans s3).trans s4, I4, en4, q'.step s4⟩
          | bk e m =>
            rw [eb] at q'
            exact q'
          | rt d m =>
            rw [eb] at q'
            exact q'
          | ex x ns l e m =>
            rw [eb] at q'
            exact q'
          | stuck =>
            rw [eb] at q'
            exact q'
      · rw [if_neg h] at q'; exact False.elim q'
    · rintro σ' H' ⟨env', c', μ', rfl, s', I', en', q'⟩
      rw [List.drop_length] at q'
      unfold forGo at q'
      by_cases h : guard gd μ' = true
      · rw [if_pos h] at q'
        exact q' σ' c' I'.step I' en'
      · rw [if_neg h] at q'; exact False.elim q'
end
end DL
namespace DL
open PySem PySem.Spec PyProof.Rows L2
section
variable {X : Cx} {S : Sx} {W : WX} {a b e tg : Expr} {es : List Expr} {da db d : DE} {dt : DT} {ds : DA} {pos : Pos} {k : Nat} {st : Stmt} {rest sa sb : List Stmt} {s1 s2 : DS}
/-! ### blocks, small statements -/
@[simp] def sNil : DS := fun env μ => .nx env μ
def sSeq (a b : DS) : DS := fun env μ => (a env μ).bind b
theorem pdss_nil : PDSs X S W [] sNil := ⟨_, pss_nil, fun env σ c μ E I en q => q σ c I.step I en⟩
theorem seq_run {t1 t2 : TS} (k1 : ∀ env σ c μ E, SI S c μ → EnvOk S c env σ → SQ S W c E (s1 env μ) → t1 E σ c.H) (k2 : ∀ env σ c μ E, SI S c μ → EnvOk S c env σ → SQ S W c E (s2 env μ) → t2 E σ c.H) :
    ∀ env σ c μ E, SI S c μ → EnvOk S c env σ → SQ S W c E (sSeq s1 s2 env μ) → tSeq t1 t2 E σ c.H := by
  intro env σ c μ E I en q
  have q : SQ S W c E ((s1 env μ).bind s2) := q
  refine k1 env σ c μ { E with nx := t2 E } I en ?_
  cases e : s1 env μ with
  | nx en1 m => rw [e] at q; exact fun σ' c' s I' en' => k2 en1 σ' c' m E I' en' (SQ.step s q)
  | rt d m => rw [e] at q; exact q
  | bk e1 m => rw [e] at q; exact q
  | ct e1 m => rw [e] at q; exact q
  | ex x ns l e1 m => rw [e] at q; exact q
  | stuck => rw [e] at q; exact q
theorem pdss_cons (h1 : PDS X S W st s1) (h2 : PDSs X S W rest s2) : PDSs X S W (st :: rest) (sSeq s1 s2) := by
  obtain ⟨t1, p1, k1⟩ := h1.ex
  obtain ⟨t2, p2, k2⟩ := h2.ex
  exact ⟨_, pss_cons p1 p2, seq_run k1 k2⟩
theorem pdss_one (h1 : PDS X S W st s1) : PDSs X S W [st] s1 := by
  obtain ⟨t1, p1, k1⟩ := h1.ex
  exact ⟨_, pss_one p1, k1⟩
@[simp] def sBrk : DS := fun env μ => .bk env μ
@[simp] def sCnt : DS := fun env μ => .ct env μ
def sExp (d : DE) : DS := fun env μ => (d env μ).bindS env fun _ μ1 => .nx env μ1
theorem pds_exp (he : PDE X S W e d) (hs : swapsWith e none pos.line X.env = pure false := by rfl) : PDS X S W (.Expr e pos) (sExp d) := by
  obtain ⟨t, p, k⟩ := he.ex
  refine ⟨_, ps_expr p hs, fun env σ c μ E I en q => ?_⟩
  refine (show t σ c.H fun _ H1 => E.nx σ H1 from ?_)
  exact bindES en (fun Q' => k env σ c μ Q' I en) q fun x μ1 v c1 s1 I1 r1 q1 => q1 σ c1 I1.step I1 (en.step s1)
def sRet (d : DE) : DS := fun env μ => (d env μ).bindS env fun x μ1 => .rt x μ1
theorem pds_ret (he : PDE X S W e d) : PDS X S W (.Return (some e) pos) (sRet d) := by
  obtain ⟨t, p, k⟩ := he.ex
  refine ⟨_, ps_ret p, fun env σ c μ E I en q => ?_⟩
  refine (show t σ c.H E.rt from ?_)
  exact bindES en (fun Q' => k env σ c μ Q' I en) q fun x μ1 v c1 s1 I1 r1 q1 => q1 v c1 I1.step I1 r1
@[simp] def sRetN : DS := fun _ μ => .rt .non μ
def sIf (t : DT) (a b : DS) : DS := fun env μ => (t env μ).bindS env fun k μ1 => if k = true then a env μ1 else b env μ1
theorem pds_if (hc : PDT X S W e dt) (ha : PDSs X S W sa s1) (hb : PDSs X S W sb s2) : PDS X S W (.If e sa sb pos) (sIf dt s1 s2) := by
  obtain ⟨t, p, k⟩ := hc.ex
  obtain ⟨t1, p1, k1⟩ := ha.ex
  obtain ⟨t2, p2, k2⟩ := hb.ex
  refine ⟨_, ps_if p p1 p2, fun env σ c μ E I en q => ?_⟩
  refine (show t σ c.H fun b H1 => if b = true then t1 E σ H1 else t2 E σ H1 from ?_)
  refine bindTS en (fun Q' => k env σ c μ Q' I en) q fun x μ1 c1 s1 I1 q1 => ?_
  cases x with
  | true => exact iteT (k1 env σ c1 μ1 E I1 (en.step s1) q1)
  | false => exact iteF (k2 env σ c1 μ1 E I1 (en.step s1) q1)
/-! ### assignments -/
def sAsg (d : DE) (g : DG) : DS := fun env μ => (d env μ).bindS env fun x μ1 => match g x env μ1 with
  | some env1 => .nx env1 μ1
  | none => .stuck
theorem asg_run {t : TE} {g : TG} {dg : DG} {js : List Nat} (k : ∀ env σ c μ Q, SI S c μ → EnvOk S c env σ → EQ S W σ c Q (d env μ) → t σ c.H Q)
    (kg : ∀ env σ c μ d v env' Q, SI S c μ → EnvOk S c env σ → rep S c.io c.F d v → dg d env μ = some env' → (∀ σ', EnvOk S c env' σ' → Agree js σ σ' → Q σ' c.H) → g v σ c.H Q) :
    ∀ env σ c μ E, SI S c μ → EnvOk S c env σ → SQ S W c E (sAsg d dg env μ) → tAsg t g E σ c.H := by
  intro env σ c μ E I en q
  refine (show t σ c.H fun x H1 => g x σ H1 E.nx from ?_)
  refine bindES en (fun Q' => k env σ c μ Q' I en) q fun x μ1 v c1 s1 I1 r1 q1 => ?_
  cases e1 : dg x env μ1 with
  | none => rw [e1] at q1; exact False.elim q1
  | some env1 =>
    rw [e1] at q1
    exact kg env σ c1 μ1 x v env1 _ I1 (en.step s1) r1 e1 fun σ' en' _ => q1 σ' c1 I1.step I1 en'
theorem pds_set {i : Nat} {x : Str} {pos' : Pos} (hN : X.N.Nodup) (hi : X.N[i]? = some x) (hx : Loc X.env.scope x) (he : PDE X S W e d) (hs : swapsWith e (some (.Name x pos')) pos.line X.env = pure false := by rfl)
    (hf : X.fn x = true ∨ X.env.scope.names.lookup x = some .local := by first | exact .inl rfl | exact .inr rfl) : PDS X S W (.Assign [.Name x pos'] e pos) (sAsg d (gNm i)) := by
  obtain ⟨t, p, k⟩ := he.ex
  refine ⟨_, ps_set hN hi hx p hs hf, asg_run (js := [i]) k fun env σ c μ d v env' Q I en r e k => ?_⟩
  cases (show some (env.set i (some d)) = some env' from e)
  exact k _ (en.set r i) ⟨List.length_set, fun j h => List.getElem?_set_ne fun z => h (by simp [z])⟩
theorem pds_asg {dg : DG} {js : List Nat} (he : PDE X S W e d) (hg : PDG X S tg dg js) (hs : swapsWithSole [tg] e pos.line X.env = pure false := by rfl) (hw : swappedStores [tg] e X.env = pure none := by rfl)
    (h1 : (assignEach [tg] X.env).map (·.2) = [assign tg X.env] := by rfl) : PDS X S W (.Assign [tg] e pos) (sAsg d dg) := by
  obtain ⟨t, p, k⟩ := he.ex
  obtain ⟨g, pg, kg⟩ := hg.ex
  exact ⟨_, ps_asg p pg hs hw h1, asg_run k kg⟩
/-- x = [a, ..], a cell -/
def sCel (i : Nat) (ds : DA) : DS := fun env μ => (ds env μ).bindS env fun l μ1 => if l.length ≤ 100000 then .nx (env.set i (some (.cel μ1.length))) (μ1 ++ [.lst l]) else .stuck
theorem bindAS {σ : St} {c : Cf} {E : Ends} {env : En} {t : TA} {R : List V → Hp → Prop} {o : Out (List D)} {f : List D → List M → SO}
    (en : EnvOk S c env σ) (h : ∀ Q, AQ S W σ c Q o → t σ c.H Q) (k : SQ S W c E (o.bindS env f)) (g : ∀ x μ v c', Step S c c' → SI S c' μ → reps S c'.io c'.F x v → SQ S W c' E (f x μ) → R v c'.H) : t σ c.H R := by
  refine h _ ?_
  cases o with
  | ok x μ => exact fun v c' s I r => g x μ v c' s I r (SQ.step s k)
  | ex x ns l μ => exact fun dd c' s I r => k dd σ c' s I (en.step s) r
  | stuck => exact k
theorem cel_new {σ : St} {c : Cf} {env : En} {μ : List M} {l : List D} {xs : List V} {i : Nat} {p : Addr} (I : SI S c μ) (en : EnvOk S c env σ) (r : reps S c.io c.F l xs) (hp : c.H p = none) :
    ∃ c', c'.H = upd c.H p (.lst xs) ∧ SI S c' (μ ++ [.lst l]) ∧ Step S c c' ∧ EnvOk S c' (env.set i (some (.cel μ.length))) (σ.set i (some (.ref p))) := by
  obtain ⟨I', s⟩ := I.alloc (p := p) (o := .lst xs) (m := .lst l) hp fun io pre => ⟨I.ex.back hp, xs, upd_same, reps.mono pre (Ex.refl _) l r⟩
  refine ⟨_, rfl, I', s, (en.step s).set ?_ i⟩
  unfold rep
  refine ⟨p, rfl, ?_⟩
  show (c.io ++ [p])[μ.length]? = some p
  rw [← I.len, List.getElem?_append_right (Nat.le_refl _), Nat.sub_self]; rfl
theorem pds_cel {i : Nat} {x : Str} {pos' lpos : Pos} (hN : X.N.Nodup) (hi : X.N[i]? = some x) (hx : Loc X.env.scope x) (ha : PDA X S W es ds) (hs : swapsWith (.List es lpos) (some (.Name x pos')) pos.line X.env = pure false := by rfl)
    (hf : X.fn x = true ∨ X.env.scope.names.lookup x = some .local := by first | exact .inl rfl | exact .inr rfl) : PDS X S W (.Assign [.Name x pos'] (.List es lpos) pos) (sCel i ds) := by
  obtain ⟨t, p, k⟩ := ha.ex
  refine ⟨_, ps_set hN hi hx (pe_lst p) hs hf, fun env σ c μ E I en q => ?_⟩
  refine (show t σ c.H fun xs H1 => xs.length ≤ sizeLine ∧ ∀ p, H1 p = none → E.nx (σ.set i (some (.ref p))) (upd H1 p (.lst xs)) from ?_)
  refine bindAS en (fun Q' => k env σ c μ Q' I en) q fun l μ1 vs c1 s1 I1 r1 q1 => ?_
  by_cases h : l.length ≤ 100000
  · rw [if_pos h] at q1
    refine ⟨by rw [← r1.len]; exact sz_of h, fun p hp => ?_⟩
    obtain ⟨c2, e2, I2, s2, en2⟩ := cel_new (i := i) I1 (en.step s1) r1 hp
    rw [← e2]
    exact q1 _ c2 s2 I2 en2
  · rw [if_neg h] at q1; exact False.elim q1
def sNew (i : Nat) (ds : DA) : DS := fun env μ => (ds env μ).bindS env fun l μ1 => .nx (env.set i (some (.cel μ1.length))) (μ1 ++ [.lst l])
/-! ### xs.append(e), xs[i] = e -/
def sApp (da de : DE) : DS := fun env μ => (da env μ).bindS env fun x μ1 => match x with
  | .cel i => match μ1[i]? with
    | some (.lst _) => (de env μ1).bindS env fun y μ2 => match μ2[i]? with
      | some (.lst l) => if l.length < 100000 then .nx env (μ2.set i (.lst (l ++ [y]))) else .stuck
      | _ => .stuck
    | _ => .stuck
  | _ => .stuck
theorem cel_lst {c : Cf} {μ : List M} {i : Nat} {v : V} {l : List D} (I : SI S c μ) (r : rep S c.io c.F (.cel i) v) (e : μ[i]? = some (.lst l)) :
    ∃ a xs, v = .ref a ∧ c.io[i]? = some a ∧ c.F a = none ∧ c.H a = some (.lst xs) ∧ reps S c.io c.F l xs := by
  unfold rep at r
  obtain ⟨a, h1, h2⟩ := r
  obtain ⟨k1, xs, k2, k3⟩ := I.cell i a _ h2 e
  exact ⟨a, xs, h1, h2, k1, k2, k3⟩
theorem pds_app {apos cpos : Pos} {d2 : DE} (hK : X.K = S.K) (ha : PDE X S W a da) (he : PDE X S W e d2)
    (h1 : attributeBase a "append" X.env (eval a X.env) = eval a X.env := by rfl)
    (h2 : (((backTo cpos (starEach [e] X.env)).all (fun x => !x.1) && (backToKw cpos (keywordEach [] X.env)).all (fun x => x.1.isSome)) && decide (([e] : List Expr).length + ([] : List Keyword).length + (if ([] : List Keyword).isEmpty = true then 0 else 1) < 30)) = true := by rfl)
    (h3 : (apos.endLine == cpos.line) = true := by rfl) (h4 : starEach [e] X.env = (false, eval e X.env) :: starEach [] X.env := by rfl)
    (h5 : (backTo cpos (starEach [] X.env)).any (·.1) = false := by rfl) (hs : swapsWith (.Call (.Attribute a "append" apos) [e] [] cpos) none pos.line X.env = pure false := by rfl) :
    PDS X S W (.Expr (.Call (.Attribute a "append" apos) [e] [] cpos) pos) (sApp da d2) := by
  obtain ⟨ta, pa, ka⟩ := ha.ex
  obtain ⟨tb, pb, kb⟩ := he.ex
  refine ⟨_, ps_expr (pe_bm PySem.F.plainAttrs_list PySem.F.slot_list_append PySem.F.type_list_append mt_append pa (pa_cons pb pa_nil h4) h1 h2 h3 h4 h5) hs, fun env σ c μ E I en q => ?_⟩
  refine (show ta σ c.H fun x H1 => tyV X.K "list" x H1 ∧ tb σ H1 fun y H2 => rAppend x [y] H2 fun _ H3 => E.nx σ H3 from ?_)
  refine bindES en (fun Q' => ka env σ c μ Q' I en) q fun x μ1 v c1 s1 I1 r1 q1 => ?_
  cases x with
  | cel i =>
    try dsimp only at q1
    cases e1 : μ1[i]? with
    | none => rw [e1] at q1; exact False.elim q1
    | some m =>
      rw [e1] at q1
      cases m with
      | lst l0 =>
        try dsimp only at q1
        obtain ⟨p, xs0, rfl, hi, hf, hH, hr⟩ := cel_lst I1 r1 e1
        refine ⟨Or.inl ⟨rfl, _, sq_of hH⟩, ?_⟩
        refine bindES (en.step s1) (fun Q' => kb env σ c1 μ1 Q' I1 (en.step s1)) q1 fun y μ2 u c2 s2 I2 r2 q2 => ?_
        try dsimp only at q2
        cases e2 : μ2[i]? with
        | none => rw [e2] at q2; exact False.elim q2
        | some m2 =>
          rw [e2] at q2
          cases m2 with
          | lst l =>
            try dsimp only at q2
            by_cases hl : l.length < 100000
            · rw [if_pos hl] at q2
              obtain ⟨p2, xs, ep, hi2, hf2, hH2, hr2⟩ := cel_lst I2 (s2.rep r1) e2
              cases ep
              refine ⟨p, xs, u, rfl, rfl, hH2, by rw [← hr2.len]; exact sz_lt hl, ?_⟩
              obtain ⟨I3, s3⟩ := I2.write (o := .lst (xs ++ [u])) (m := .lst (l ++ [y])) hi2 hf2 ⟨hf2, xs ++ [u], upd_same, hr2.append (.cons r2 .nil)⟩
              exact q2 σ _ s3 I3 (((en.step s1).step s2).step s3)
            · rw [if_neg hl] at q2; exact False.elim q2
          | _ => exact False.elim q2
      | _ => exact False.elim q1
  | _ => exact False.elim q1
def sSetIx (de da di : DE) : DS := fun env μ => (de env μ).bindS env fun y μ1 => (da env μ1).bindS env fun x μ2 => (di env μ2).bindS env fun n μ3 => match x, n with
  | .cel i, .int k => match μ3[i]? with
    | some (.lst l) => match ixN l.length k with
      | some j => .nx env (μ3.set i (.lst (l.set j y)))
      | none => .stuck
    | _ => .stuck
  | _, _ => .stuck
theorem pds_setIx {i : Expr} {spos : Pos} {dx di : DE} (he : PDE X S W e d) (ha : PDE X S W a dx) (hi : PDE X S W i di)
    (h1 : ∀ v, assign (.Subscript a i spos) X.env v = (do
      let ov ← holding [v] (eval a X.env)
      let iv ← holding [v, ov] (eval i X.env)
      standAt spos
      holding [v, ov, iv] (setItem ov iv v)
      release [v, ov, iv] []) := by intro _; rfl)
    (hs : swapsWithSole [.Subscript a i spos] e pos.line X.env = pure false := by rfl) (hw : swappedStores [.Subscript a i spos] e X.env = pure none := by rfl)
    (h2 : (assignEach [.Subscript a i spos] X.env).map (·.2) = [assign (.Subscript a i spos) X.env] := by rfl) : PDS X S W (.Assign [.Subscript a i spos] e pos) (sSetIx d dx di) := by
  obtain ⟨t, p, k⟩ := he.ex
  obtain ⟨ta, pa, ka⟩ := ha.ex
  obtain ⟨ti, pi, ki⟩ := hi.ex
  refine ⟨_, ps_asg p (pg_sub pa pi set_list h1) hs hw h2, fun env σ c μ E I en q => ?_⟩
  refine (show t σ c.H fun v H1 => ta σ H1 fun o H2 => ti σ H2 fun n H3 => rSetL o n v H3 fun H4 => E.nx σ H4 from ?_)
  refine bindES en (fun Q' => k env σ c μ Q' I en) q fun y μ1 u c1 s1 I1 r1 q1 => ?_
  refine bindES (en.step s1) (fun Q' => ka env σ c1 μ1 Q' I1 (en.step s1)) q1 fun x μ2 v c2 s2 I2 r2 q2 => ?_
  refine bindES ((en.step s1).step s2) (fun Q' => ki env σ c2 μ2 Q' I2 ((en.step s1).step s2)) q2 fun n μ3 w c3 s3 I3 r3 q3 => ?_
  try dsimp only at q3
  split at q3
  · rename_i j kk
    split at q3
    · rename_i l e3
      split at q3
      · rename_i m em
        obtain ⟨p2, xs, rfl, hi2, hf2, hH2, hr2⟩ := cel_lst I3 (s3.rep r2) e3
        rw [rep_int.mp r3]
        refine ⟨p2, xs, kk, m, rfl, rfl, hH2, by rw [← hr2.len]; exact em, ?_⟩
        obtain ⟨I4, s4⟩ := I3.write (o := .lst (xs.set m u)) (m := .lst (l.set m y)) hi2 hf2 ⟨hf2, _, upd_same, reps.set (s3.rep (s2.rep r1)) m hr2⟩
        exact q3 σ _ s4 I4 ((((en.step s1).step s2).step s3).step s4)
      · exact False.elim q3
    · exact False.elim q3
  · exact False.elim q3
/-! ### while -/
def whGo (t : DT) (b : DS) : Nat → En → List M → SO
  | 0, _, _ => .stuck
  | n + 1, env, μ => (t env μ).bindS env fun k μ1 => if k = true then match b env μ1 with
    | .nx e m => whGo t b n e m
    | .ct e m => whGo t b n e m
    | .bk e m => .nx e m
    | o => o
    else .nx env μ1
open Classical in
noncomputable def sWhile (t : DT) (b : DS) : DS := fun env μ => if h : ∃ n, whGo t b n env μ ≠ .stuck then whGo t b (choose h) env μ else .stuck
theorem whGo_more {t : DT} {b : DS} : ∀ {n : Nat} {env : En} {μ : List M} (m : Nat), whGo t b n env μ ≠ .stuck → whGo t b (n + m) env μ = whGo t b n env μ
  | 0, env, μ, m, h => absurd rfl h
  | n + 1, env, μ, m, h => by
    rw [show n + 1 + m = (n + m) + 1 by omega]
    unfold whGo at h ⊢
    cases e : t env μ with
    | stuck => rfl
    | ex x ns l μ1 => rfl
    | ok k μ1 =>
      rw [e] at h
      dsimp only [Out.bindS] at h ⊢
      cases k with
      | false => rfl
      | true =>
        rw [if_pos rfl] at h ⊢
        rw [if_pos rfl]
        cases eb : b env μ1 with
        | nx e1 m1 => rw [eb] at h; exact whGo_more m h
        | ct e1 m1 => rw [eb] at h; exact whGo_more m h
        | _ => rfl
theorem sWhile_eq {t : DT} {b : DS} {env : En} {μ : List M} {n : Nat} {o : SO} (h : whGo t b n env μ = o) (ho : o ≠ .stuck) : sWhile t b env μ = o := by
  have hx : ∃ n, whGo t b n env μ ≠ .stuck := ⟨n, by rw [h]; exact ho⟩
  unfold sWhile
  rw [dif_pos hx]
  have h1 := whGo_more n (Classical.choose_spec hx)
  have h2 := whGo_more (Classical.choose hx) (show whGo t b n env μ ≠ .stuck by rw [h]; exact ho)
  rw [← h1, Nat.add_comm, h2, h]
theorem pds_while (hp : PassesOwn (model X.prog X.w) X.A X.env X.xe) (hc : PDT X S W e dt) (hb : PDSs X S W sa s1) : PDS X S W (.While e sa [] pos) (sWhile dt s1) := by
  obtain ⟨t, p, k⟩ := hc.ex
  obtain ⟨t1, p1, k1⟩ := hb.ex
  refine ⟨_, ps_while hp p p1, fun env σ c μ E I en q => ?_⟩
  unfold sWhile at q
  by_cases h : ∃ n, whGo dt s1 n env μ ≠ .stuck
  · rw [dif_pos h] at q
    refine ⟨fun n σ' H' => ∃ env' c' μ', c'.H = H' ∧ Step S c c' ∧ SI S c' μ' ∧ EnvOk S c' env' σ' ∧ SQ S W c' E (whGo dt s1 n env' μ'), ⟨_, env, c, μ, rfl, I.step, I, en, q⟩, ?_⟩
    rintro n σ' H' ⟨env', c', μ', rfl, s', I', en', q'⟩
    cases n with
    | zero => exact False.elim q'
    | succ n =>
      unfold whGo at q'
      refine k env' σ' c' μ' _ I' en' ?_
      cases e1 : dt env' μ' with
      | stuck => rw [e1] at q'; exact q'
      | ex x ns l μ1 => rw [e1] at q'; exact fun dd c2 s2 I2 r => q' dd σ' c2 s2 I2 (en'.step s2) r
      | ok b μ1 =>
        rw [e1] at q'
        intro c2 s2 I2
        have q' := SQ.step s2 q'
        cases b with
        | false => exact iteF (q' σ' c2 I2.step I2 (en'.step s2))
        | true =>
          have q' : SQ S W c2 E (match s1 env' μ1 with
            | .nx e m => whGo dt s1 n e m
            | .ct e m => whGo dt s1 n e m
            | .bk e m => .nx e m
            | o => o) := q'
          refine iteT ⟨fun σ2 H2 => ∃ env' c' μ', c'.H = H2 ∧ Step S c c' ∧ SI S c' μ' ∧ EnvOk S c' env' σ2 ∧ SQ S W c' E (whGo dt s1 n env' μ'), fun σ2 H2 z => ⟨n, Nat.lt_succ_self n, z⟩, ?_⟩
          refine k1 env' σ' c2 μ1 _ I2 (en'.step s2) ?_
          cases eb : s1 env' μ1 with
          | nx e m =>
            rw [eb] at q'
            exact fun σ4 c4 s4 I4 en4 => ⟨e, c4, m, rfl, (s'.trans s2).trans s4, I4, en4, q'.step s4⟩
          | ct e m =>
            rw [eb] at q'
            exact fun σ4 c4 s4 I4 en4 => ⟨e, c4, m, rfl, (s'.trans s2).trans s4, I4, en4, q'.step s4⟩
          | bk e m => rw [eb] at q'; exact q'
          | rt d m => rw [eb] at q'; exact q'
          | ex x ns l e m => rw [eb] at q'; exact q'
          | stuck => rw [eb] at q'; exact q'
  · rw [dif_neg h] at q; exact False.elim q
end
end DL
namespace DL
open PySem PySem.Spec PyProof.Rows L2
section
variable {X : Cx} {S : Sx} {W : WX} {a b e tg : Expr} {es : List Expr} {da db d : DE} {dt : DT} {ds : DA} {pos : Pos} {k : Nat}
/-! ### comprehensions -/
def wipeE (env : En) : List Nat → En
  | [] => env
  | v :: vs => (wipeE env vs).set v none
theorem EnvOk.wipe {c : Cf} {env : En} {σ : St} (h : EnvOk S c env σ) : ∀ vs : List Nat, EnvOk S c (wipeE env vs) (L2.wipe σ vs)
  | [] => h
  | v :: vs => (EnvOk.wipe h vs).del v
theorem wipe_at {σ : St} {i : Nat} : ∀ {vs : List Nat}, i ∉ vs → (L2.wipe σ vs)[i]? = σ[i]?
  | [], _ => rfl
  | v :: vs, h => by
    show ((L2.wipe σ vs).set v none)[i]? = _
    rw [List.getElem?_set_ne fun z => h (by simp [z])]
    exact wipe_at fun q => h (List.mem_cons_of_mem _ q)
theorem wipe_in {σ : St} {i : Nat} : ∀ {vs : List Nat}, i ∈ vs → (L2.wipe σ vs)[i]? = if i < σ.length then some none else none
  | v :: vs, h => by
    show ((L2.wipe σ vs).set v none)[i]? = _
    by_cases e : v = i
    · subst e
      by_cases hl : v < σ.length
      · rw [if_pos hl, List.getElem?_set_self (by rw [L2.wipe_length]; exact hl)]
      · rw [if_neg hl, List.getElem?_eq_none (by rw [List.length_set, L2.wipe_length]; omega)]
    · rw [List.getElem?_set_ne e]
      rcases List.mem_cons.mp h with q | q
      · exact absurd q.symm e
      · exact wipe_in q
theorem wipe_agree {σ σ' : St} {js vs : List Nat} (a : Agree js (L2.wipe σ vs) σ') (h : ∀ j ∈ js, j ∈ vs) : L2.wipe σ' vs = L2.wipe σ vs := by
  apply List.ext_getElem?
  intro i
  have hl : σ'.length = σ.length := by rw [a.1, L2.wipe_length]
  by_cases m : i ∈ vs
  · rw [wipe_in m, wipe_in m, hl]
  · rw [wipe_at m, a.2 i (fun q => m (h i q))]
structure PDTs (X : Cx) (S : Sx) (W : WX) (ifs : List Expr) (d : DT) : Prop where
  ex : ∃ t, PTs X ifs t ∧ ∀ env σ c μ Q, SI S c μ → EnvOk S c env σ → TQ S W σ c Q (d env μ) → t σ c.H Q
theorem pdts_nil : PDTs X S W [] tYes' := ⟨_, pts_nil, fun env σ c μ Q I en q => q c I.step I⟩
theorem pdts_one (h : PDT X S W e dt) : PDTs X S W [e] dt := by
  obtain ⟨t, p, k⟩ := h.ex
  exact ⟨_, pts_one p, k⟩
theorem PDTs.pts {ifs : List Expr} (h : PDTs X S W ifs dt) : PTs X ifs (tT S W dt) := by
  obtain ⟨t, p, k⟩ := h.ex
  refine ⟨fun pins s σ H Q I q => ?_⟩
  obtain ⟨env, c, μ, rfl, i, en, q⟩ := q
  exact p.run pins s σ _ Q I (k env σ c μ Q i en q)
def tG (S : Sx) (dg : DG) (js : List Nat) : TG := fun v σ H Q => ∃ env c μ d env', c.H = H ∧ SI S c μ ∧ EnvOk S c env σ ∧ rep S c.io c.F d v ∧ dg d env μ = some env' ∧ ∀ σ', EnvOk S c env' σ' → Agree js σ σ' → Q σ' H
theorem PDG.pg {dg : DG} {js : List Nat} (h : PDG X S tg dg js) : PG X tg (tG S dg js) := by
  obtain ⟨t, p, k⟩ := h.ex
  refine ⟨fun pins s σ H v u Q I r q => ?_⟩
  obtain ⟨env, c, μ, d, env', rfl, i, en, r', e, q⟩ := q
  exact p.run pins s σ _ v u Q I r (k env σ c μ d v env' Q i en r' e q)
def wNo : WX := fun _ _ _ _ => False
noncomputable def lcGo (g : List M → Prop) (tg : DG) (tt : DT) (el : DE) (env0 : En) : List D → List M → List D → Out (List D)
  | [], μ, acc => if guard g μ = true then .ok acc μ else .stuck
  | x :: xs, μ, acc => if guard g μ = true then match tg x env0 μ with
    | some env1 => match tt env1 μ with
      | .ok b μ1 => if b = true then match el env1 μ1 with
        | .ok y μ2 => if acc.length < 100000 then lcGo g tg tt el env0 xs μ2 (acc ++ [y]) else .stuck
        | _ => .stuck
        else lcGo g tg tt el env0 xs μ1 acc
      | _ => .stuck
    | none => .stuck
    else .stuck
noncomputable def dLc (di : DI) (tg : DG) (tt : DT) (el : DE) (vs : List Nat) : DA := fun env μ => (di env μ).bind fun lg μ1 => lcGo lg.2 tg tt el (wipeE env vs) lg.1 μ1 []
/-- an object that is tracked, but no datum's -/
structure Ghost (c : Cf) (p : Addr) : Prop where
  io : p ∉ c.io
  F : c.F p = none
  H : c.H p ≠ none
theorem Ghost.step {c c' : Cf} {p : Addr} (g : Ghost c p) (s : Step S c c') : Ghost c' p := by
  refine ⟨fun m => g.H (s.new p m g.io), ?_, s.som p g.H⟩
  cases e : c'.F p with
  | none => rfl
  | some o =>
    obtain ⟨i, _, hi⟩ := s.frz p g.H g.F (by rw [e]; exact fun z => nomatch z)
    exact absurd (List.mem_of_getElem? hi) g.io
theorem SI.ghost {c : Cf} {μ : List M} {p : Addr} {o : HO} (I : SI S c μ) (hi : p ∉ c.io) (hf : c.F p = none) : SI S ⟨c.io, c.F, upd c.H p o⟩ μ := by
  refine ⟨I.ex.updR hf, I.len, I.nd, fun i a m h1 h2 => ?_, I.cls⟩
  have nep : a ≠ p := fun z => hi (by rw [← z]; exact List.mem_of_getElem? h1)
  have k := I.cell i a m h1 h2
  cases m with
  | lst l =>
    obtain ⟨k1, xs, k2, k3⟩ := k
    exact ⟨k1, xs, (upd_ne nep).trans k2, k3⟩
  | dct ks l =>
    obtain ⟨k1, xs, k2, k3, k4⟩ := k
    exact ⟨k1, xs, (upd_ne nep).trans k2, k3, k4⟩
  | obj x ns l =>
    obtain ⟨k1, dx, fs, k2, k3, k4⟩ := k
    exact ⟨k1, dx, fs, (upd_ne nep).trans k2, k3, k4⟩
  | dead =>
    obtain ⟨u, k⟩ := k
    exact ⟨u, (upd_ne nep).trans k⟩
/-- a change at an object that was not there at c -/
theorem Step.ghost {c c' : Cf} {p : Addr} {o : HO} (s : Step S c c') (hp : c.H p = none) : Step S c ⟨c'.io, c'.F, upd c'.H p o⟩ := by
  refine ⟨s.pre, s.nd, s.exF, s.frz, fun q u h1 h2 => ?_, s.new, fun q h => ?_⟩
  · exact (upd_ne (ne_of_none h1 hp)).trans (s.keep q u h1 h2)
  · show upd c'.H p o q ≠ none
    by_cases e : q = p
    · rw [e, upd_same]; exact fun z => nomatch z
    · rw [upd_ne e]; exact s.som q h
theorem EnvOk.ghost {c : Cf} {env : En} {σ : St} {H : Hp} (h : EnvOk S c env σ) : EnvOk S ⟨c.io, c.F, H⟩ env σ := ⟨h.len, h.at_⟩
/-- .. becomes a datum -/
theorem SI.froz {c c1 : Cf} {μ : List M} {p : Addr} {xs : List V} {l : List D} (I : SI S c μ) (g : Ghost c p) (hH : c.H p = some (.lst xs)) (r : reps S c.io c.F l xs) (s : Step S c1 c) (hp : c1.H p = none) :
    SI S ⟨c.io, upd c.F p (.lst xs), c.H⟩ μ ∧ Step S c1 ⟨c.io, upd c.F p (.lst xs), c.H⟩ ∧ rep S c.io (upd c.F p (.lst xs)) (.lst l) (.ref p) := by
  have ex : Ex c.F (upd c.F p (.lst xs)) := Ex.new g.F
  refine ⟨⟨fun q u h => ?_, I.len, I.nd, fun i a m h1 h2 => ?_, I.cls⟩, ⟨s.pre, s.nd, s.exF.trans ex, fun q h1 h2 h3 => ?_, s.keep, s.new, s.som⟩, ?_⟩
  · by_cases e : q = p
    · subst e
      have h : upd c.F q (.lst xs) q = some u := h
      rw [upd_same] at h
      rw [← h]; exact hH
    · have h : upd c.F p (.lst xs) q = some u := h
      rw [upd_ne e] at h
      exact I.ex q u h
  · have nep : a ≠ p := fun z => g.io (by rw [← z]; exact List.mem_of_getElem? h1)
    have k := I.cell i a m h1 h2
    cases m with
    | lst l =>
      obtain ⟨k1, xs, k2, k3⟩ := k
      exact ⟨(upd_ne nep).trans k1, xs, k2, reps.mono (List.prefix_refl _) ex _ k3⟩
    | dct ks l =>
      obtain ⟨k1, xs, k2, k3, k4⟩ := k
      exact ⟨(upd_ne nep).trans k1, xs, k2, k3, reps.mono (List.prefix_refl _) ex _ k4⟩
    | obj x ns l =>
      obtain ⟨k1, dx, fs, k2, k3, k4⟩ := k
      exact ⟨(upd_ne nep).trans k1, dx, fs, k2, k3, reps.mono (List.prefix_refl _) ex _ k4⟩
    | dead => exact k
  · have h3 : upd c.F p (.lst xs) q ≠ none := h3
    rw [upd_ne (fun z => h1 (by rw [z]; exact hp))] at h3
    exact s.frz q h1 h2 h3
  · unfold rep
    exact ⟨p, xs, rfl, upd_same, reps.mono (List.prefix_refl _) ex _ r⟩
theorem lc_run {wi : TI} {di : DI} {dg : DG} {de : DE} {js vs : List Nat} (hjs : ∀ j ∈ js, j ∈ vs)
    (ki : ∀ env σ c μ R, SI S c μ → EnvOk S c env σ → IQ S W σ c R (di env μ) → wi σ c.H R) :
    ∀ env σ c μ (Q : VK), SI S c μ → EnvOk S c env σ → (match dLc di dg dt de vs env μ with
      | .ok l μ' => ∀ (p : Addr) (c' : Cf) (xs : List V) (c1 : Cf), Step S c c1 → c1.H p = none → Step S c1 c' → SI S c' μ' → Ghost c' p → c'.H p = some (.lst xs) → reps S c'.io c'.F l xs → Q (.ref p) c'.H
      | .ex x ns l μ' => XQ S W σ c x ns l μ'
      | .stuck => False) → tLc wi (tG S dg js) (tT S wNo dt) (tE S wNo de) vs σ c.H Q := by
  intro env σ c μ Q I en q
  refine ki env σ c μ _ I en ?_
  unfold dLc at q
  cases e : di env μ with
  | stuck => rw [e] at q; exact q
  | ex x ns l μ1 => rw [e] at q; exact q
  | ok lg μ1 =>
    obtain ⟨l, gd⟩ := lg
    rw [e] at q
    intro J c1 s1 I1 w Dl hD
    obtain ⟨G, Y, w1, w2, w3⟩ := w.ex
    let fin (o : Out (List D)) : Prop := match o with
      | .ok l μ' => ∀ (p : Addr) (c' : Cf) (xs : List V) (c1 : Cf), Step S c c1 → c1.H p = none → Step S c1 c' → SI S c' μ' → Ghost c' p → c'.H p = some (.lst xs) → reps S c'.io c'.F l xs → Q (.ref p) c'.H
      | .ex x ns l μ' => XQ S W σ c x ns l μ'
      | .stuck => False
    have q : fin (lcGo gd dg dt de (wipeE env vs) l μ1 []) := q
    have io0 : Dl ∉ c1.io := fun m => by
      obtain ⟨o, h⟩ := I1.there m
      rw [hD] at h; cases h
    have f0 : c1.F Dl = none := I1.ex.back hD
    refine lc_it w1 (fun i H' => ∃ c' μ' acc xs, c'.H = H' ∧ Step S c1 c' ∧ SI S c' μ' ∧ Ghost c' Dl ∧ c'.H Dl = some (.lst xs) ∧ reps S c'.io c'.F acc xs ∧ fin (lcGo gd dg dt de (wipeE env vs) (l.drop i) μ' acc)) ?_ ?_ ?_ ?_
    · refine ⟨⟨c1.io, c1.F, upd c1.H Dl (.lst [])⟩, μ1, [], [], rfl, I1.step.ghost hD, I1.ghost io0 f0, ⟨io0, f0, ?_⟩, upd_same, .nil, q⟩
      show upd c1.H Dl (.lst []) Dl ≠ none
      rw [upd_same]; exact fun z => nomatch z
    · rintro i H' hi ⟨c', μ', acc, xs, rfl, s', I', g', h', r', q'⟩
      refine w2 c' μ' s' I' ?_
      cases ed : l.drop i with
      | nil =>
        rw [ed] at q'
        unfold lcGo at q'
        by_cases h : guard gd μ' = true
        · exact guard_iff.mp h
        · rw [if_neg h] at q'; exact False.elim q'
      | cons d r =>
        rw [ed] at q'
        unfold lcGo at q'
        by_cases h : guard gd μ' = true
        · exact guard_iff.mp h
        · rw [if_neg h] at q'; exact False.elim q'
    · rintro i x H' H2 hi ⟨c', μ', acc, xs, rfl, s', I', g', h', r', q'⟩ y
      have ed : l.drop i = l[i] :: l.drop (i + 1) := List.drop_eq_getElem_cons hi
      rw [ed] at q'
      unfold lcGo at q'
      by_cases h : guard gd μ' = true
      · rw [if_pos h] at q'
        obtain ⟨c3, d, rfl, s3, I3, e3, r3⟩ := w3 i x H2 c' μ' hi s' I' (guard_iff.mp h) y
        rw [List.getElem?_eq_getElem hi] at e3
        rw [Option.some.inj e3] at q'
        cases et : dg d (wipeE env vs) μ' with
        | none => rw [et] at q'; exact False.elim q'
        | some env1 =>
          rw [et] at q'
          have en3 : EnvOk S c3 (wipeE env vs) (L2.wipe σ vs) := (((en.step s1).step s').step s3).wipe vs
          refine ⟨_, c3, μ', d, env1, rfl, I3, en3, r3, et, fun σ1 en1 ag => ⟨wipe_agree ag hjs, env1, c3, μ', rfl, I3, en1, ?_⟩⟩
          dsimp only at q'
          cases ett : dt env1 μ' with
          | stuck => rw [ett] at q'; exact False.elim q'
          | ex _ _ _ _ => rw [ett] at q'; exact False.elim q'
          | ok b μ2 =>
            rw [ett] at q'
            intro c4 s4 I4
            have g4 := (g'.step s3).step s4
            have h4 : c4.H Dl = some (.lst xs) := s4.keep Dl _ (s3.keep Dl _ h' g'.io) (g'.step s3).io
            cases b with
            | false =>
              refine iteF ⟨c4, μ2, acc, xs, rfl, (s'.trans s3).trans s4, I4, g4, h4, s4.reps (s3.reps r'), ?_⟩
              exact q'
            | true =>
              dsimp only at q'
              rw [if_pos rfl] at q'
              refine iteT ⟨env1, c4, μ2, rfl, I4, en1.step s4, ?_⟩
              cases ee : de env1 μ2 with
              | stuck => rw [ee] at q'; exact False.elim q'
              | ex _ _ _ _ => rw [ee] at q'; exact False.elim q'
              | ok y μ3 =>
                rw [ee] at q'
                dsimp only at q'
                intro u c5 s5 I5 r5
                have g5 := g4.step s5
                have h5 : c5.H Dl = some (.lst xs) := s5.keep Dl _ h4 g4.io
                have ra := s5.reps (s4.reps (s3.reps r'))
                by_cases hl : acc.length < 100000
                · rw [if_pos hl] at q'
                  refine ⟨xs, h5, by rw [← ra.len]; exact sz_lt hl, ⟨c5.io, c5.F, upd c5.H Dl (.lst (xs ++ [u]))⟩, μ3, acc ++ [y], xs ++ [u], rfl, (((s'.trans s3).trans s4).trans s5).ghost hD, I5.ghost g5.io g5.F, ⟨g5.io, g5.F, ?_⟩, upd_same, ra.append (.cons r5 .nil), q'⟩
                  show upd c5.H Dl _ Dl ≠ none
                  rw [upd_same]; exact fun z => nomatch z
                · rw [if_neg hl] at q'; exact False.elim q'
      · rw [if_neg h] at q'; exact False.elim q'
    · rintro H' ⟨c', μ', acc, xs, rfl, s', I', g', h', r', q'⟩
      rw [List.drop_length] at q'
      unfold lcGo at q'
      by_cases h : guard gd μ' = true
      · rw [if_pos h] at q'
        exact q' Dl c' xs c1 s1 hD s' I' g' h' r'
      · rw [if_neg h] at q'; exact False.elim q'
noncomputable def dLcF (di : DI) (tg : DG) (tt : DT) (el : DE) (vs : List Nat) : DE := fun env μ => (dLc di tg tt el vs env μ).bind fun l μ1 => .ok (.lst l) μ1
theorem pd_lc {iter : Expr} {ifs : List Expr} {scope : Scope} {own : List (Str × Nat)} {di : DI} {dg : DG} {js : List Nat} (hc : X.calm = true) (hN : X.N.Nodup) (hi : PDI X S W tg iter di) (ok : BlkOk X.N X.env.scope scope own) (hjs : ∀ j ∈ js, j ∈ own.map (·.2))
    (hg : ∀ (s : Shared) (H : Hp) (C : Addr) (cl : List (Str × Addr)) (fp : List Addr), PDG (X.blk s H scope (compEnvC scope cl C X.env) fp) S tg dg js) (ht : ∀ (s : Shared) (H : Hp) (C : Addr) (cl : List (Str × Addr)) (fp : List Addr), PDTs (X.blk s H scope (compEnvC scope cl C X.env) fp) S wNo ifs dt)
    (he : ∀ (s : Shared) (H : Hp) (C : Addr) (cl : List (Str × Addr)) (fp : List Addr), PDE (X.blk s H scope (compEnvC scope cl C X.env) fp) S wNo e d) (hs : ∀ x, foldedSetIterable iter X.env x = pure x := by intro _; rfl) :
    PDE X S W (.ListComp e [⟨tg, iter, ifs, 0⟩] scope pos) (dLcF di dg dt d (own.map (·.2))) := by
  obtain ⟨wi, pi, ki⟩ := hi.ex
  refine ⟨_, pe_lc hc hN pi ok (fun s H C cl fp => (hg s H C cl fp).pg) (fun s H C cl fp => (ht s H C cl fp).pts) (fun s H C cl fp => (he s H C cl fp).pe) hs, fun env σ c μ Q I en q => ?_⟩
  refine lc_run hjs ki env σ c μ Q I en ?_
  unfold dLcF at q
  cases e1 : dLc di dg dt d (own.map (·.2)) env μ with
  | stuck => rw [e1] at q; exact q
  | ex x ns l μ1 => rw [e1] at q; exact q
  | ok l μ1 =>
    rw [e1] at q
    intro p c' xs c1 s1 hp s' I' g' h' r'
    obtain ⟨I2, s2, r2⟩ := I'.froz g' h' r' s' hp
    exact q _ ⟨c'.io, upd c'.F p (.lst xs), c'.H⟩ (s1.trans s2) I2 r2
theorem pds_setLc {i : Nat} {y : Str} {py spos : Pos} {iter : Expr} {ifs : List Expr} {scope : Scope} {own : List (Str × Nat)} {di : DI} {dg : DG} {js : List Nat} (hc : X.calm = true) (hN : X.N.Nodup) (hy : X.N[i]? = some y) (hyl : X.env.scope.names.lookup y = some .local)
    (hsw : swapsWith (.ListComp e [⟨tg, iter, ifs, 0⟩] scope pos) (some (.Name y py)) spos.line X.env = pure true) (hi : PDI X S W tg iter di) (ok : BlkOk X.N X.env.scope scope own) (hjs : ∀ j ∈ js, j ∈ own.map (·.2))
    (hg : ∀ (s : Shared) (H : Hp) (C : Addr) (cl : List (Str × Addr)) (fp : List Addr), PDG (X.blk s H scope (compEnvC scope cl C X.env) fp) S tg dg js) (ht : ∀ (s : Shared) (H : Hp) (C : Addr) (cl : List (Str × Addr)) (fp : List Addr), PDTs (X.blk s H scope (compEnvC scope cl C X.env) fp) S wNo ifs dt)
    (he : ∀ (s : Shared) (H : Hp) (C : Addr) (cl : List (Str × Addr)) (fp : List Addr), PDE (X.blk s H scope (compEnvC scope cl C X.env) fp) S wNo e d) (hs : ∀ x, foldedSetIterable iter X.env x = pure x := by intro _; rfl) :
    PDS X S W (.Assign [.Name y py] (.ListComp e [⟨tg, iter, ifs, 0⟩] scope pos) spos) (sAsg (dLcF di dg dt d (own.map (·.2))) (gNm i)) := by
  obtain ⟨wi, pi, ki⟩ := hi.ex
  refine ⟨_, ps_setLc hc hN hy hyl hsw pi ok (fun s H C cl fp => (hg s H C cl fp).pg) (fun s H C cl fp => (ht s H C cl fp).pts) (fun s H C cl fp => (he s H C cl fp).pe) hs, ?_⟩
  refine asg_run (js := [i]) (fun env σ c μ Q I en q => ?_) (fun env σ c μ d v env' Q I en r e k => ?_)
  · refine lc_run hjs ki env σ c μ Q I en ?_
    unfold dLcF at q
    cases e1 : dLc di dg dt d (own.map (·.2)) env μ with
    | stuck => rw [e1] at q; exact q
    | ex x ns l μ1 => rw [e1] at q; exact q
    | ok l μ1 =>
      rw [e1] at q
      intro p c' xs c1 s1 hp s' I' g' h' r'
      obtain ⟨I2, s2, r2⟩ := I'.froz g' h' r' s' hp
      exact q _ ⟨c'.io, upd c'.F p (.lst xs), c'.H⟩ (s1.trans s2) I2 r2
  · cases (show some (env.set i (some d)) = some env' from e)
    exact k _ (en.set r i) ⟨List.length_set, fun j h => List.getElem?_set_ne fun z => h (by simp [z])⟩
end
end DL
namespace DL
open PySem PySem.Spec PyProof.Rows L2
/-! ### what a def hands back: cells of its own become data -/
mutual
def sub (n : Nat) (f : Nat → Option D) : D → Option D
  | .cel i => if i < n then some (.cel i) else f i
  | .tup l => (subs n f l).map .tup | .lst l => (subs n f l).map .lst | .dct ks l => (subs n f l).map (.dct ks) | .obj c ns l => (subs n f l).map (.obj c ns) | .exc c ns l => (subs n f l).map (.exc c ns)
  | d => some d
def subs (n : Nat) (f : Nat → Option D) : List D → Option (List D)
  | [] => some []
  | d :: l => match sub n f d, subs n f l with
    | some d', some l' => some (d' :: l')
    | _, _ => none
end
def rsv (n : Nat) (μ : List M) : Nat → Nat → Option D
  | 0, _ => none
  | k + 1, i => match μ[i]? with
    | some (.lst l) => (subs n (rsv n μ k) l).map .lst
    | some (.dct ks l) => (subs n (rsv n μ k) l).map (.dct ks)
    | some (.obj c ns l) => (subs n (rsv n μ k) l).map (.obj c ns)
    | _ => none
def subM (n : Nat) (f : Nat → Option D) : M → Option M
  | .lst l => (subs n f l).map .lst
  | .dct ks l => (subs n f l).map (.dct ks)
  | .obj c ns l => (subs n f l).map (.obj c ns)
  | .dead => some .dead
def subMs (n : Nat) (f : Nat → Option D) : List M → Option (List M)
  | [] => some []
  | m :: r => match subM n f m, subMs n f r with
    | some m', some r' => some (m' :: r')
    | _, _ => none
mutual
theorem sub_clean {n : Nat} {f : Nat → Option D} : ∀ d : D, clean n d = true → sub n f d = some d
  | .cel i, h => by unfold clean at h; unfold sub; rw [if_pos (of_decide_eq_true h)]
  | .tup l, h => by unfold clean at h; unfold sub; rw [subs_clean l h]; rfl
  | .lst l, h => by unfold clean at h; unfold sub; rw [subs_clean l h]; rfl
  | .dct ks l, h => by unfold clean at h; unfold sub; rw [subs_clean l h]; rfl
  | .obj c ns l, h => by unfold clean at h; unfold sub; rw [subs_clean l h]; rfl
  | .exc c ns l, h => by unfold clean at h; cases h
  | .non, _ => rfl
  | .txt, _ => rfl
  | .bl _, _ => rfl
  | .int _, _ => rfl
  | .str _, _ => rfl
  | .ty _, _ => rfl
  | .glo _, _ => rfl
  | .scr _, _ => rfl
theorem subs_clean {n : Nat} {f : Nat → Option D} : ∀ l : List D, cleans n l = true → subs n f l = some l
  | [], _ => rfl
  | d :: l, h => by
    unfold cleans at h
    have h' := Bool.and_eq_true_iff.mp h
    unfold subs
    rw [sub_clean d h'.1, subs_clean l h'.2]
end
/-- what stands of the answer and of the caller's cells, behind the call -/
def finD (n : Nat) (μ : List M) (d : D) : Option (D × List M) := match sub n (rsv n μ 20) d, subMs n (rsv n μ 20) (μ.take n) with
  | some d', some μ' => some (d', μ')
  | _, _ => none
def finL (n : Nat) (μ : List M) (l : List D) : Option (List D × List M) := match subs n (rsv n μ 20) l, subMs n (rsv n μ 20) (μ.take n) with
  | some d', some μ' => some (d', μ')
  | _, _ => none
def fin (n : Nat) : SO → Out D
  | .rt d μ => match finD n μ d with
    | some (d', μ') => .ok d' μ'
    | none => .stuck
  | .nx _ μ => match finD n μ .non with
    | some (d', μ') => .ok d' μ'
    | none => .stuck
  | .ex x ns l _ μ => match finL n μ l with
    | some (l', μ') => .ex x ns l' μ'
    | none => .stuck
  | _ => .stuck
theorem subMs_clean {n : Nat} {f : Nat → Option D} : ∀ l : List M, l.all (cleanM n) = true → subMs n f l = some l
  | [], _ => rfl
  | m :: r, h => by
    rw [List.all_cons] at h
    have h' := Bool.and_eq_true_iff.mp h
    have e : subM n f m = some m := by
      cases m with
      | lst l => dsimp only [subM]; rw [subs_clean l h'.1]; rfl
      | dct ks l => dsimp only [subM]; rw [subs_clean l h'.1]; rfl
      | obj c ns l => dsimp only [subM]; rw [subs_clean l h'.1]; rfl
      | dead => rfl
    unfold subMs
    rw [e, subMs_clean r h'.2]
theorem fin_rt {n : Nat} {μ : List M} {d : D} (h : clean n d = true) (h' : (μ.take n).all (cleanM n) = true) : fin n (.rt d μ) = .ok d (μ.take n) := by
  dsimp only [fin, finD]
  rw [sub_clean d h, subMs_clean _ h']
theorem fin_nx {n : Nat} {e : En} {μ : List M} (h' : (μ.take n).all (cleanM n) = true) : fin n (.nx e μ) = .ok .non (μ.take n) := by
  dsimp only [fin, finD]
  rw [sub_clean .non rfl, subMs_clean _ h']
theorem fin_ex {n : Nat} {x : Str} {ns : List Str} {l : List D} {e : En} {μ : List M} (h : cleans n l = true) (h' : (μ.take n).all (cleanM n) = true) : fin n (.ex x ns l e μ) = .ex x ns l (μ.take n) := by
  dsimp only [fin, finL]
  rw [subs_clean l h, subMs_clean _ h']
section
variable {S : Sx} {c : Cf} {μ : List M}
/-- all cells from n on become data -/
def froz (c : Cf) (n : Nat) : Cf := ⟨c.io.take n, fun p => if p ∈ c.io.drop n then c.H p else c.F p, c.H⟩
theorem froz_ex (I : SI S c μ) (n : Nat) : Ex c.F (froz c n).F := fun a o h => by
  show (if a ∈ c.io.drop n then c.H a else c.F a) = some o
  by_cases m : a ∈ c.io.drop n
  · rw [if_pos m]; exact I.ex a o h
  · rw [if_neg m]; exact h
variable {n : Nat}
mutual
theorem sub_rep (I : SI S c μ) {f : Nat → Option D} (hf : ∀ i d' v, n ≤ i → f i = some d' → rep S c.io c.F (.cel i) v → rep S (froz c n).io (froz c n).F d' v) :
    ∀ (d : D) {d' : D} {v : V}, sub n f d = some d' → rep S c.io c.F d v → rep S (froz c n).io (froz c n).F d' v
  | .cel i, d', v, e, r => by
    unfold sub at e
    by_cases h : i < n
    · rw [if_pos h] at e
      cases e
      unfold rep at r ⊢
      obtain ⟨a, h1, h2⟩ := r
      refine ⟨a, h1, ?_⟩
      show (c.io.take n)[i]? = some a
      rw [List.getElem?_take_of_lt h]; exact h2
    · rw [if_neg h] at e
      exact hf i d' v (by omega) e r
  | .tup l, d', v, e, r => by
    unfold sub at e
    cases el : subs n f l with
    | none => rw [el] at e; cases e
    | some l' =>
      rw [el] at e; cases e
      unfold rep at r ⊢
      obtain ⟨a, xs, h1, h2, h3⟩ := r
      exact ⟨a, xs, h1, ex_t (froz_ex I n) h2, subs_rep I hf l el h3⟩
  | .lst l, d', v, e, r => by
    unfold sub at e
    cases el : subs n f l with
    | none => rw [el] at e; cases e
    | some l' =>
      rw [el] at e; cases e
      unfold rep at r ⊢
      obtain ⟨a, xs, h1, h2, h3⟩ := r
      exact ⟨a, xs, h1, froz_ex I n _ _ h2, subs_rep I hf l el h3⟩
  | .dct ks l, d', v, e, r => by
    unfold sub at e
    cases el : subs n f l with
    | none => rw [el] at e; cases e
    | some l' =>
      rw [el] at e; cases e
      unfold rep at r ⊢
      obtain ⟨a, xs, h1, h2, h3, h4⟩ := r
      exact ⟨a, xs, h1, froz_ex I n _ _ h2, h3, subs_rep I hf l el h4⟩
  | .obj cl ns l, d', v, e, r => by
    unfold sub at e
    cases el : subs n f l with
    | none => rw [el] at e; cases e
    | some l' =>
      rw [el] at e; cases e
      unfold rep at r ⊢
      obtain ⟨a, dx, fs, h1, h2, h3, h4, h5⟩ := r
      exact ⟨a, dx, fs, h1, froz_ex I n _ _ h2, h3, subs_rep I hf l el h4, h5⟩
  | .exc cl ns l, d', v, e, r => by
    unfold sub at e
    cases el : subs n f l with
    | none => rw [el] at e; cases e
    | some l' =>
      rw [el] at e; cases e
      unfold rep at r ⊢
      obtain ⟨a, oe, d, h1, h2, h3, h4, h5⟩ := r
      refine ⟨a, oe, d, h1, h2, h3, h4, ?_⟩
      rcases h5 with ⟨h5, h6, h7⟩ | ⟨dd, fs, h5, h6, h7, h8⟩
      · subst h6
        cases (show subs n f [] = some l' from el)
        exact Or.inl ⟨h5, rfl, h7⟩
      · exact Or.inr ⟨dd, fs, h5, froz_ex I n _ _ h6, h7, subs_rep I hf l el h8⟩
  | .non, d', v, e, r => by cases (show some D.non = some d' from e); unfold rep at r ⊢; exact r
  | .txt, d', v, e, r => by cases (show some D.txt = some d' from e); unfold rep at r ⊢; exact r
  | .bl _, d', v, e, r => by cases (show some (D.bl _) = some d' from e); unfold rep at r ⊢; exact r
  | .int _, d', v, e, r => by cases (show some (D.int _) = some d' from e); unfold rep at r ⊢; exact r
  | .str _, d', v, e, r => by cases (show some (D.str _) = some d' from e); unfold rep at r ⊢; exact r
  | .ty _, d', v, e, r => by cases (show some (D.ty _) = some d' from e); unfold rep at r ⊢; exact r
  | .glo _, d', v, e, r => by cases (show some (D.glo _) = some d' from e); unfold rep at r ⊢; exact r
  | .scr _, d', v, e, r => by
    cases (show some (D.scr _) = some d' from e)
    unfold rep at r ⊢
    obtain ⟨a, h1, h2⟩ := r
    exact ⟨a, h1, ex_l (froz_ex I n) h2⟩
theorem subs_rep (I : SI S c μ) {f : Nat → Option D} (hf : ∀ i d' v, n ≤ i → f i = some d' → rep S c.io c.F (.cel i) v → rep S (froz c n).io (froz c n).F d' v) :
    ∀ (l : List D) {l' : List D} {xs : List V}, subs n f l = some l' → reps S c.io c.F l xs → reps S (froz c n).io (froz c n).F l' xs
  | [], l', xs, e, r => by
    cases (show some [] = some l' from e)
    rw [r.eq_nil]; exact .nil
  | d :: l, l', xs, e, r => by
    obtain ⟨x, q, rfl, r1, r2⟩ := r.uncons
    unfold subs at e
    cases e1 : sub n f d with
    | none => rw [e1] at e; cases e
    | some d1 =>
      rw [e1] at e
      cases e2 : subs n f l with
      | none => rw [e2] at e; cases e
      | some l1 =>
        rw [e2] at e
        cases e
        exact .cons (sub_rep I hf d e1 r1) (subs_rep I hf l e2 r2)
end
theorem rsv_rep (I : SI S c μ) : ∀ (k : Nat) (i : Nat) (d' : D) (v : V), n ≤ i → rsv n μ k i = some d' → rep S c.io c.F (.cel i) v → rep S (froz c n).io (froz c n).F d' v
  | 0, _, _, _, _, e, _ => by cases e
  | k + 1, i, d', v, hi, e, r => by
    have ih := rsv_rep I k
    unfold rep at r
    obtain ⟨a, rfl, h2⟩ := r
    have md : a ∈ c.io.drop n := by
      refine List.mem_of_getElem? (i := i - n) ?_
      rw [List.getElem?_drop, show n + (i - n) = i by omega]; exact h2
    have hF : (froz c n).F a = c.H a := by
      show (if a ∈ c.io.drop n then c.H a else c.F a) = c.H a
      rw [if_pos md]
    unfold rsv at e
    cases em : μ[i]? with
    | none => rw [em] at e; cases e
    | some m =>
      rw [em] at e
      cases m with
      | lst l =>
        dsimp only at e
        cases el : subs n (rsv n μ k) l with
        | none => rw [el] at e; cases e
        | some l' =>
          rw [el] at e; cases e
          obtain ⟨_, xs, k2, k3⟩ := I.cell i a _ h2 em
          unfold rep
          exact ⟨a, xs, rfl, hF.trans k2, subs_rep I ih l el k3⟩
      | dct ks l =>
        dsimp only at e
        cases el : subs n (rsv n μ k) l with
        | none => rw [el] at e; cases e
        | some l' =>
          rw [el] at e; cases e
          obtain ⟨_, xs, k2, k3, k4⟩ := I.cell i a _ h2 em
          unfold rep
          exact ⟨a, xs, rfl, hF.trans k2, k3, subs_rep I ih l el k4⟩
      | obj x ns l =>
        dsimp only at e
        cases el : subs n (rsv n μ k) l with
        | none => rw [el] at e; cases e
        | some l' =>
          rw [el] at e; cases e
          obtain ⟨_, dx, fs, k2, k3, k4⟩ := I.cell i a _ h2 em
          unfold rep
          exact ⟨a, dx, fs, rfl, hF.trans k2, k3, subs_rep I ih l el k4, I.cls i x ns l em⟩
      | dead => cases e
theorem subMs_get {f : Nat → Option D} : ∀ {l l' : List M} {i : Nat} {m : M}, subMs n f l = some l' → l'[i]? = some m → ∃ m0, l[i]? = some m0 ∧ subM n f m0 = some m
  | [], l', i, m, e, h => by cases (show some [] = some l' from e); cases h
  | m0 :: r, l', i, m, e, h => by
    unfold subMs at e
    cases e1 : subM n f m0 with
    | none => rw [e1] at e; cases e
    | some m1 =>
      rw [e1] at e
      cases e2 : subMs n f r with
      | none => rw [e2] at e; cases e
      | some r1 =>
        rw [e2] at e; cases e
        cases i with
        | zero => simp at h; subst h; exact ⟨m0, rfl, e1⟩
        | succ i => exact subMs_get (i := i) e2 (by simpa using h)
theorem subMs_len {f : Nat → Option D} : ∀ {l l' : List M}, subMs n f l = some l' → l'.length = l.length
  | [], l', e => by cases (show some [] = some l' from e); rfl
  | m0 :: r, l', e => by
    unfold subMs at e
    cases e1 : subM n f m0 with
    | none => rw [e1] at e; cases e
    | some m1 =>
      rw [e1] at e
      cases e2 : subMs n f r with
      | none => rw [e2] at e; cases e
      | some r1 =>
        rw [e2] at e; cases e
        rw [List.length_cons, List.length_cons, subMs_len e2]
theorem froz_SI (I : SI S c μ) {f : Nat → Option D} (hf : ∀ i d' v, n ≤ i → f i = some d' → rep S c.io c.F (.cel i) v → rep S (froz c n).io (froz c n).F d' v) {μ' : List M} (e : subMs n f (μ.take n) = some μ') : SI S (froz c n) μ' := by
  refine ⟨fun a o h => ?_, ?_, I.nd.sublist (List.take_sublist _ _), fun i a m h1 h2 => ?_, fun i x ns l h => ?_⟩
  · have h : (if a ∈ c.io.drop n then c.H a else c.F a) = some o := h
    by_cases md : a ∈ c.io.drop n
    · rw [if_pos md] at h; exact h
    · rw [if_neg md] at h; exact I.ex a o h
  · show (c.io.take n).length = μ'.length
    rw [subMs_len e, List.length_take, List.length_take, I.len]
  · have h1 : (c.io.take n)[i]? = some a := h1
    have hi : i < n := by
      have := (List.getElem?_eq_some_iff.mp h1).1
      rw [List.length_take] at this; omega
    rw [List.getElem?_take_of_lt hi] at h1
    obtain ⟨m0, k1, k2⟩ := subMs_get e h2
    rw [List.getElem?_take_of_lt hi] at k1
    have nd : a ∉ c.io.drop n := fun md => by
      obtain ⟨j, hj, ej⟩ := List.getElem_of_mem md
      have e2 : c.io[n + j]? = some a := by
        rw [← List.getElem?_drop, List.getElem?_eq_getElem hj, ej]
      have := nodup_at I.nd h1 e2
      omega
    have k := I.cell i a m0 h1 k1
    have hF : c.F a = none → (froz c n).F a = none := fun z => by
      show (if a ∈ c.io.drop n then c.H a else c.F a) = none
      rw [if_neg nd]; exact z
    cases m0 with
    | lst l =>
      obtain ⟨z1, xs, z2, z3⟩ := k
      dsimp only [subM] at k2
      cases el : subs n f l with
      | none => rw [el] at k2; cases k2
      | some l' =>
        rw [el] at k2; cases k2
        exact ⟨hF z1, xs, z2, subs_rep I hf l el z3⟩
    | dct ks l =>
      obtain ⟨z1, xs, z2, z3, z4⟩ := k
      dsimp only [subM] at k2
      cases el : subs n f l with
      | none => rw [el] at k2; cases k2
      | some l' =>
        rw [el] at k2; cases k2
        exact ⟨hF z1, xs, z2, z3, subs_rep I hf l el z4⟩
    | obj x ns l =>
      obtain ⟨z1, dx, fs, z2, z3, z4⟩ := k
      dsimp only [subM] at k2
      cases el : subs n f l with
      | none => rw [el] at k2; cases k2
      | some l' =>
        rw [el] at k2; cases k2
        exact ⟨hF z1, dx, fs, z2, z3, subs_rep I hf l el z4⟩
    | dead => cases k2; exact k
  · obtain ⟨m0, k1, k2⟩ := subMs_get e h
    have hi : i < n := by
      have := (List.getElem?_eq_some_iff.mp k1).1
      rw [List.length_take] at this; omega
    rw [List.getElem?_take_of_lt hi] at k1
    cases m0 with
    | obj x0 ns0 l0 =>
      dsimp only [subM] at k2
      cases el : subs n f l0 with
      | none => rw [el] at k2; cases k2
      | some l' => rw [el] at k2; cases k2; exact I.cls i _ _ _ k1
    | lst l0 =>
      dsimp only [subM] at k2
      cases el : subs n f l0 with
      | none => rw [el] at k2; cases k2
      | some l' => rw [el] at k2; cases k2
    | dct ks l0 =>
      dsimp only [subM] at k2
      cases el : subs n f l0 with
      | none => rw [el] at k2; cases k2
      | some l' => rw [el] at k2; cases k2
    | dead => cases k2
end
end DL
/-! ### two ways to let exceptions out: none of them has a context (false), or they may (true) -/
namespace L2M
open PySem PySem.Spec PyProof.Rows L2
theorem held_imp {h B : Heap} {l : List Env} {a L : Addr} {Z Z' : Obj → Prop} (z : ∀ o, Z o → Z' o) (x : HandSPX.HeldZ B l a Z L h) : HandSPX.HeldZ B l a Z' L h :=
  ⟨x.1, x.2.1, x.2.2.1, L2H.tracedZ_imp z x.2.2.2⟩
theorem sky_imp {h B : Heap} {l : List Env} {a L : Addr} {Z Z' : Obj → Prop} (z : ∀ o, Z o → Z' o) (x : Sky B l a Z L h) : Sky B l a Z' L h := by
  rcases x with ⟨x1, x2, x3, oe, vs, x4, x5, x6⟩ | x | x
  · exact .inl ⟨x1, x2, x3, oe, vs, x4, z _ x5, x6⟩
  · exact .inr (.inl (L2H.flyingZ_imp z x))
  · exact .inr (.inr (held_imp z x))
def CX (md : Bool) (P : Program) (w : World) : CXT := match md with
  | true => L2.CX P w
  | false => L2N.CX P w
def Takes (md : Bool) (X : Cx) (W : WX) : Prop := match md with
  | true => L2.Takes X W
  | false => L2N.Takes X W
theorem takes_n {X : Cx} {W : WX} (h : L2.Takes X W) : L2N.Takes X W := fun u s' ⟨a, B, sI, pins, σ, H, cls, d, e, I, nb, up, sky, r⟩ =>
  h u s' ⟨a, B, sI, pins, σ, H, cls, d, e, I, nb, up, sky_imp (fun _ z => z.zc) sky, r⟩
theorem Takes.n {md : Bool} {X : Cx} {W : WX} (h : Takes md X W) : L2N.Takes X W := match md, h with
  | true, h => takes_n h
  | false, h => h
theorem passAt {md : Bool} {X : Cx} {W : WX} (tk : Takes md X W) (σ : L2.St) : PassesAt (CX md X.prog X.w) X σ (WE W σ) := match md, tk with
  | true, tk => L2.passAt tk σ
  | false, tk => L2N.passAt tk σ
theorem takes_of {md : Bool} {X : Cx} {E : XK} (hs : X.stack = X.env :: X.outer) (hf : X.env.frame = some X.env.locals) (hex : X.ex = []) {E₁ : Value → Shared → Prop}
    (hx : X.xe = fun e s' => wpAny (model X.prog X.w) X.A (leaving X.env e) (fun _ s'' => CX md X.prog X.w X.outer X.H_0 X.s_0 E e s'') E₁ s') : Takes md X (fun cls d _ H => E cls d H) := match md, hx with
  | true, hx => L2.takes_of hs hf hex hx
  | false, hx => L2N.takes_of hs hf hex hx
theorem cx_up {md : Bool} {P : Program} {w : World} {outer : List Env} {H : Hp} {s : Shared} {E : XK} {u : Value} {s' : Shared} (h : L2N.CX P w outer H s E u s') : CX md P w outer H s E u s' := match md with
  | false => h
  | true => by
    obtain ⟨a, B, H', cls, d, e, fl, r⟩ := h
    exact ⟨a, B, H', cls, d, e, L2H.flyingZ_imp (fun _ z => z.zc) fl, r⟩
theorem cx_top {md : Bool} {P : Program} {w : World} {outer : List Env} {H : Hp} {s : Shared} {E : XK} {u : Value} {s' : Shared} (h : CX md P w outer H s E u s') : CX true P w outer H s E u s' := match md, h with
  | true, h => h
  | false, h => cx_up (md := true) h
end L2M
namespace DL
open PySem PySem.Spec PyProof.Rows L2
/-! ### the same, at another number of cells -/
abbrev at0 (S : Sx) (n : Nat) : Sx := ⟨S.K, S.A, n, S.pn, S.cls⟩
section
variable {S : Sx} {n : Nat} {io : List Addr} {F : Hp}
mutual
theorem rep_at : ∀ (d : D) {v : V}, rep (at0 S n) io F d v ↔ rep S io F d v
  | .tup l, v => by
    unfold rep
    exact ⟨fun ⟨a, xs, h1, h2, h3⟩ => ⟨a, xs, h1, h2, (reps_at l).mp h3⟩, fun ⟨a, xs, h1, h2, h3⟩ => ⟨a, xs, h1, h2, (reps_at l).mpr h3⟩⟩
  | .lst l, v => by
    unfold rep
    exact ⟨fun ⟨a, xs, h1, h2, h3⟩ => ⟨a, xs, h1, h2, (reps_at l).mp h3⟩, fun ⟨a, xs, h1, h2, h3⟩ => ⟨a, xs, h1, h2, (reps_at l).mpr h3⟩⟩
  | .dct ks l, v => by
    unfold rep
    exact ⟨fun ⟨a, xs, h1, h2, h3, h4⟩ => ⟨a, xs, h1, h2, h3, (reps_at l).mp h4⟩, fun ⟨a, xs, h1, h2, h3, h4⟩ => ⟨a, xs, h1, h2, h3, (reps_at l).mpr h4⟩⟩
  | .obj c ns l, v => by
    unfold rep
    exact ⟨fun ⟨a, dx, xs, h1, h2, h3, h4, h5⟩ => ⟨a, dx, xs, h1, h2, h3, (reps_at l).mp h4, h5⟩, fun ⟨a, dx, xs, h1, h2, h3, h4, h5⟩ => ⟨a, dx, xs, h1, h2, h3, (reps_at l).mpr h4, h5⟩⟩
  | .exc c ns l, v => by
    unfold rep
    exact ⟨fun ⟨a, oe, d, h1, h2, h3, h4, h5⟩ => ⟨a, oe, d, h1, h2, h3, h4, h5.imp id fun ⟨dd, fs, k1, k2, k3, k4⟩ => ⟨dd, fs, k1, k2, k3, (reps_at l).mp k4⟩⟩,
      fun ⟨a, oe, d, h1, h2, h3, h4, h5⟩ => ⟨a, oe, d, h1, h2, h3, h4, h5.imp id fun ⟨dd, fs, k1, k2, k3, k4⟩ => ⟨dd, fs, k1, k2, k3, (reps_at l).mpr k4⟩⟩⟩
  | .non, v => by unfold rep; exact Iff.rfl
  | .txt, v => by unfold rep; exact Iff.rfl
  | .bl _, v => by unfold rep; exact Iff.rfl
  | .int _, v => by unfold rep; exact Iff.rfl
  | .str _, v => by unfold rep; exact Iff.rfl
  | .ty _, v => by unfold rep; exact Iff.rfl
  | .glo _, v => by unfold rep; exact Iff.rfl
  | .scr _, v => by unfold rep; exact Iff.rfl
  | .cel _, v => by unfold rep; exact Iff.rfl
theorem reps_at : ∀ (l : List D) {vs : List V}, reps (at0 S n) io F l vs ↔ reps S io F l vs
  | [], vs => by unfold reps; exact Iff.rfl
  | d :: l, vs => by
    unfold reps
    exact ⟨fun ⟨x, r, h1, h2, h3⟩ => ⟨x, r, h1, (rep_at d).mp h2, (reps_at l).mp h3⟩, fun ⟨x, r, h1, h2, h3⟩ => ⟨x, r, h1, (rep_at d).mpr h2, (reps_at l).mpr h3⟩⟩
end
theorem cell_at {c : Cf} {a : Addr} : ∀ {m : M}, cellOk (at0 S n) c a m ↔ cellOk S c a m
  | .lst l => ⟨fun ⟨h1, xs, h2, h3⟩ => ⟨h1, xs, h2, (reps_at l).mp h3⟩, fun ⟨h1, xs, h2, h3⟩ => ⟨h1, xs, h2, (reps_at l).mpr h3⟩⟩
  | .dct ks l => ⟨fun ⟨h1, xs, h2, h3, h4⟩ => ⟨h1, xs, h2, h3, (reps_at l).mp h4⟩, fun ⟨h1, xs, h2, h3, h4⟩ => ⟨h1, xs, h2, h3, (reps_at l).mpr h4⟩⟩
  | .obj x ns l => ⟨fun ⟨h1, dx, xs, h2, h3, h4⟩ => ⟨h1, dx, xs, h2, h3, (reps_at l).mp h4⟩, fun ⟨h1, dx, xs, h2, h3, h4⟩ => ⟨h1, dx, xs, h2, h3, (reps_at l).mpr h4⟩⟩
  | .dead => Iff.rfl
theorem SI_at {c : Cf} {μ : List M} : SI (at0 S n) c μ ↔ SI S c μ :=
  ⟨fun h => ⟨h.ex, h.len, h.nd, fun i a m h1 h2 => cell_at.mp (h.cell i a m h1 h2), h.cls⟩, fun h => ⟨h.ex, h.len, h.nd, fun i a m h1 h2 => cell_at.mpr (h.cell i a m h1 h2), h.cls⟩⟩
theorem xrep_at {c : Cf} {ns : List Str} {l : List D} {dd : Option Addr} : xrep (at0 S n) c ns l dd ↔ xrep S c ns l dd :=
  ⟨fun h => h.imp id fun ⟨a, fs, h1, h2, h3, h4⟩ => ⟨a, fs, h1, h2, h3, (reps_at l).mp h4⟩, fun h => h.imp id fun ⟨a, fs, h1, h2, h3, h4⟩ => ⟨a, fs, h1, h2, h3, (reps_at l).mpr h4⟩⟩
/-- a callee's step is a caller's -/
theorem Step.up {c c' : Cf} (s : Step (at0 S c.io.length) c c') : Step S c c' :=
  ⟨s.pre, s.nd, s.exF, fun p h1 h2 h3 => by
    obtain ⟨i, hi, e⟩ := s.frz p h1 h2 h3
    exact absurd (List.getElem?_eq_some_iff.mp e).1 (Nat.not_lt.mpr hi), s.keep, s.new, s.som⟩
end
/-! ### what a def promises -/
def CQ (S : Sx) (c : Cf) (Q : VK) (E : XK) : Out D → Prop
  | .ok d μ => ∀ v c', Step (at0 S c.io.length) c c' → c'.io = c.io → SI S c' μ → rep S c'.io c'.F d v → Q v c'.H
  | .ex x ns l μ => ∀ dd c', Step (at0 S c.io.length) c c' → c'.io = c.io → SI S c' μ → xrep S c' ns l dd → E (.ref (S.A x)) dd c'.H
  | .stuck => False
abbrev GF := List D → List M → Out D
def spD (S : Sx) (np : Nat) (G : GF) : Sp := fun vs H Q E => ∃ ds io μ F, vs.length = np ∧ SI S ⟨io, F, H⟩ μ ∧ reps S io F ds vs ∧ CQ S ⟨io, F, H⟩ Q E (G ds μ)
def start (nN : Nat) (ds : List D) : En := ds.map some ++ List.replicate (nN - ds.length) none
def fnG (nN np : Nat) (body : DS) : GF := fun ds μ => if ds.length = np then fin μ.length (body (start nN ds) μ) else .stuck
theorem start_ok {S : Sx} {c : Cf} {N : List Str} {ds : List D} {vs : List V} (r : reps S c.io c.F ds vs) : EnvOk S c (start N.length ds) (L2.start N vs) := by
  refine ⟨?_, fun i d h => ?_⟩
  · unfold start L2.start
    rw [List.length_append, List.length_append, List.length_map, List.length_map, List.length_replicate, List.length_replicate, r.len]
  · unfold start at h
    by_cases hi : i < ds.length
    · rw [List.getElem?_append_left (by rw [List.length_map]; exact hi), List.getElem?_map] at h
      cases e : ds[i]? with
      | none => rw [e] at h; cases h
      | some d' =>
        rw [e] at h
        have hd : d' = d := by simpa using h
        subst hd
        obtain ⟨x, k1, k2⟩ := r.get e
        refine ⟨x, ?_, k2⟩
        unfold L2.start
        rw [List.getElem?_append_left (by rw [List.length_map, ← r.len]; exact hi), List.getElem?_map, k1]; rfl
    · rw [List.getElem?_append_right (by rw [List.length_map]; omega), List.getElem?_replicate] at h
      split at h <;> cases h
theorem froz_step {S : Sx} {c c' : Cf} {μ : List M} {n : Nat} (I : SI S c' μ) (hn : n = c.io.length) (s : Step (at0 S n) c c') : Step (at0 S n) c (froz c' n) ∧ (froz c' n).io = c.io := by
  have e : c'.io.take n = c.io := by
    obtain ⟨z, e⟩ := s.pre
    rw [← e, hn, List.take_left]
  refine ⟨⟨?_, I.nd.sublist (List.take_sublist _ _), s.exF.trans (froz_ex I n), fun p h1 h2 h3 => ?_, s.keep, fun p h1 h2 => ?_, s.som⟩, e⟩
  · show c.io <+: c'.io.take n
    rw [e]; exact List.prefix_refl _
  · have h3 : (if p ∈ c'.io.drop n then c'.H p else c'.F p) ≠ none := h3
    by_cases m : p ∈ c'.io.drop n
    · have m' : p ∈ c'.io := List.mem_of_mem_drop m
      have ni : p ∉ c.io := fun q => by
        rw [← e] at q
        have hnd := I.nd
        rw [← List.take_append_drop n c'.io] at hnd
        exact (List.nodup_append.mp hnd).2.2 p q p m rfl
      exact absurd (s.new p m' ni) h1
    · rw [if_neg m] at h3
      exact s.frz p h1 h2 h3
  · have h1 : p ∈ c'.io.take n := h1
    rw [e] at h1
    exact absurd h1 h2
theorem body_of {S : Sx} {c : Cf} {Q : VK} {E : XK} {n : Nat} (hn : n = c.io.length) : ∀ {o : SO}, CQ S c Q E (fin n o) → SQ (at0 S n) (fun cls d _ H => E cls d H) c { nx := fun _ H' => Q .non H', rt := Q } o
  | .rt d μ, h => fun v c' s I r => by
    dsimp only [fin] at h
    have I0 := SI_at.mp I
    cases e : finD n μ d with
    | none => rw [e] at h; exact False.elim h
    | some p =>
      obtain ⟨d', μ'⟩ := p
      rw [e] at h
      unfold finD at e
      cases e1 : sub n (rsv n μ 20) d with
      | none => rw [e1] at e; cases e
      | some d1 =>
        rw [e1] at e
        cases e2 : subMs n (rsv n μ 20) (μ.take n) with
        | none => rw [e2] at e; cases e
        | some μ1 =>
          rw [e2] at e; cases e
          obtain ⟨s2, ei⟩ := froz_step I0 hn s
          subst hn
          exact h v (froz c' c.io.length) s2 ei (froz_SI I0 (rsv_rep I0 20) e2) (sub_rep I0 (rsv_rep I0 20) d e1 ((rep_at d).mp r))
  | .nx en μ, h => fun σ' c' s I en' => by
    dsimp only [fin] at h
    have I0 := SI_at.mp I
    cases e : finD n μ .non with
    | none => rw [e] at h; exact False.elim h
    | some p =>
      obtain ⟨d', μ'⟩ := p
      rw [e] at h
      unfold finD at e
      cases e1 : sub n (rsv n μ 20) .non with
      | none => rw [e1] at e; cases e
      | some d1 =>
        rw [e1] at e
        cases e2 : subMs n (rsv n μ 20) (μ.take n) with
        | none => rw [e2] at e; cases e
        | some μ1 =>
          rw [e2] at e; cases e
          obtain ⟨s2, ei⟩ := froz_step I0 hn s
          subst hn
          exact h .non (froz c' c.io.length) s2 ei (froz_SI I0 (rsv_rep I0 20) e2) (sub_rep I0 (rsv_rep I0 20) .non e1 (rep_non.mpr rfl))
  | .ex x ns l en μ, h => fun dd σ' c' s I en' r => by
    dsimp only [fin] at h
    have I0 := SI_at.mp I
    cases e : finL n μ l with
    | none => rw [e] at h; exact False.elim h
    | some p =>
      obtain ⟨l', μ'⟩ := p
      rw [e] at h
      unfold finL at e
      cases e1 : subs n (rsv n μ 20) l with
      | none => rw [e1] at e; cases e
      | some d1 =>
        rw [e1] at e
        cases e2 : subMs n (rsv n μ 20) (μ.take n) with
        | none => rw [e2] at e; cases e
        | some μ1 =>
          rw [e2] at e; cases e
          obtain ⟨s2, ei⟩ := froz_step I0 hn s
          subst hn
          refine h dd (froz c' c.io.length) s2 ei (froz_SI I0 (rsv_rep I0 20) e2) ?_
          rcases xrep_at.mp r with ⟨h5, h6, h7⟩ | ⟨a, fs, h5, h6, h7, h8⟩
          · subst h6
            cases (show some [] = some l' from e1)
            exact Or.inl ⟨h5, rfl, h7⟩
          · exact Or.inr ⟨a, fs, h5, froz_ex I0 _ _ _ h6, h7, subs_rep I0 (rsv_rep I0 20) l e1 h8⟩
  | .bk _ _, h => False.elim h
  | .ct _ _, h => False.elim h
  | .stuck, h => False.elim h
section
variable {P : Program} {w : World} {K : PySem.W.Frag} {mg : Str → Option Value} {base : Heap} {x qual : Str} {params : Arguments} {body : List Stmt} {scope : Scope} {dvs : List V} {kws : List (Str × V)} {f : Addr} {fd : FuncData}
theorem fnD_ok {N ps : List Str} {k : Nat} {S : Sx} {D : DS} (F : FunD K x qual params body scope dvs kws f fd) (Sc : FnScope N ps scope)
    (hb : ∀ (n : Nat) (cdv : Value) (A : Around) (outer : List Env) (s : Shared) (H : Hp) (E : XK), Room k (A.deeper (envOfC qual scope s.heap.objs.size f cdv)) →
      PDSs (cxOf (L2M.CX md P w) P w K mg base N qual scope f cdv A outer s H E) (at0 S n) (fun cls d _ H => E cls d H) body D) :
    FnOk P w K mg base (L2M.CX md P w) (k + 1) f fd ps (spD S ps.length (fnG N.length ps.length D)) := by
  refine F.ok Sc (fun vs H Q E h => ?_) (fun cdv A outer s H vs Q E hr h => ?_)
  · obtain ⟨_, _, _, _, h, _⟩ := h
    exact h
  · obtain ⟨ds, io, μ, F0, hl, I, r, q⟩ := h
    obtain ⟨t, p, kk⟩ := (hb io.length cdv A outer s H E hr).ex
    refine ⟨t, p, kk (start N.length ds) (L2.start N vs) ⟨io, F0, H⟩ μ _ (SI_at.mpr I) (start_ok ((reps_at ds).mpr r)) ?_⟩
    have e : ds.length = ps.length := r.len.trans hl
    have q : CQ S ⟨io, F0, H⟩ Q E (if ds.length = ps.length then fin μ.length (D (start N.length ds) μ) else .stuck) := q
    rw [if_pos e, show μ.length = io.length from I.len.symm] at q
    exact body_of rfl q
end
/-! ### calls -/
def dCall (np : Nat) (G : GF) (dd : List D) (ds : DA) : DE := fun env μ => (ds env μ).bind fun l μ1 => if (l ++ dd).length = np then G (l ++ dd) μ1 else .stuck
theorem call_sp {S : Sx} {W : WX} {σ : St} {c : Cf} {μ : List M} {Q : VK} {np : Nat} {G : GF} {l : List D} {vs : List V} (I : SI S c μ) (r : reps S c.io c.F l vs) (hn : l.length = np) (q : EQ S W σ c Q (G l μ)) :
    spD S np G vs c.H Q (WE W σ) := by
  refine ⟨l, c.io, μ, c.F, by rw [← r.len]; exact hn, I, r, ?_⟩
  cases e : G l μ with
  | ok d μ' => rw [e] at q; exact fun v c' s _ I' r' => q v c' s.up I' r'
  | ex x ns l' μ' => rw [e] at q; exact fun dd c' s _ I' r' => q dd c' s.up I' r'
  | stuck => rw [e] at q; exact q
section
variable {X : Cx} {S : Sx} {W : WX} {e o : Expr} {es : List Expr} {da d : DE} {ds : DA} {pos p : Pos} {k : Nat} {x : Str} {f : Addr} {fd : FuncData} {ps : List Str} {np : Nat} {G : GF} {dd : List D} {dvs : List V} {dV : List Value}
/-- the defaults of a def -/
structure DflD (S : Sx) (K : PySem.W.Frag) (fd : FuncData) (ps : List Str) (dd : List D) : Prop where
  ex : ∃ (dvs : List V) (dV : List Value), Binds K fd ps dV ∧ Vals dvs dV ∧ ∀ io F, reps S io F dd dvs
theorem dfl_none {S : Sx} {K : PySem.W.Frag} (hb : Binds K fd ps []) : DflD S K fd ps [] := ⟨[], [], hb, .nil, fun _ _ => .nil⟩
theorem pd_call (F : FnOk X.prog X.w X.K X.mg X.base (L2M.CX md X.prog X.w) k f fd ps (spD (at0 S 0) np G)) (hr : Room k X.A) (tk : L2M.Takes md X W) (hg : Gl X x) (hm : X.mg x = some (.ref f)) (hk : PySem.W.keepIn X.K (.ref f) = true) (hb : DflD S X.K fd ps dd)
    (ha : PDA X S W (e :: es) ds) (hdb : (x == ("__debug__" : Str)) = false := by decide) (he : starEach (e :: es) X.env = (false, eval e X.env) :: starEach es X.env := by rfl) (hpl : (backTo pos (starEach es X.env)).any (·.1) = false := by rfl) :
    PDE X S W (.Call (.Name x p) (e :: es) [] pos) (dCall np G dd ds) := by
  obtain ⟨t, pa, ka⟩ := ha.ex
  obtain ⟨dvs, dV, h1, h2, h3⟩ := hb.ex
  refine ⟨_, pe_callSD F hr hg hm hk h1 h2 (fun σ => L2M.passAt tk σ) pa hdb he hpl, fun env σ c μ Q I en q => ?_⟩
  refine (show t σ c.H fun vs H1 => spD (at0 S 0) np G (vs ++ dvs) H1 Q (WE W σ) from ?_)
  refine bindAE (fun Q' => ka env σ c μ Q' I en) q fun l μ1 vs c1 s1 I1 r1 q1 => ?_
  by_cases hn : (l ++ dd).length = np
  · rw [if_pos hn] at q1
    obtain ⟨ds', io, μ', F', k1, k2, k3, k4⟩ := call_sp I1 (r1.append (h3 _ _)) hn q1
    refine ⟨ds', io, μ', F', k1, SI_at.mpr k2, (reps_at _).mpr k3, ?_⟩
    cases eo : G ds' μ' with
    | ok d μ2 => rw [eo] at k4; exact fun v c' s ei I' r' => k4 v c' s ei (SI_at.mp I') ((rep_at _).mp r')
    | ex y ns l' μ2 => rw [eo] at k4; exact fun dd c' s ei I' r' => k4 dd c' s ei (SI_at.mp I') (xrep_at.mp r')
    | stuck => rw [eo] at k4; exact k4
  · rw [if_neg hn] at q1; exact False.elim q1
end
end DL
namespace DL
open PySem PySem.Spec PyProof.Rows L2
section
variable {X : Cx} {S : Sx} {W : WX} {a b e o : Expr} {es : List Expr} {da db d : DE} {ds : DA} {pos p : Pos} {k : Nat}
/-! ### types -/
def tagOf (μ : List M) : D → Option Ty
  | .non => some (.inl "NoneType")
  | .bl _ => some (.inl "bool")
  | .int _ => some (.inl "int")
  | .str _ => some (.inl "str")
  | .txt => some (.inl "str")
  | .tup _ => some (.inl "tuple")
  | .lst _ => some (.inl "list")
  | .dct _ _ => some (.inl "dict")
  | .obj c _ _ => some (.inr c)
  | .cel i => match μ[i]? with
    | some (.lst _) => some (.inl "list")
    | some (.dct _ _) => some (.inl "dict")
    | some (.obj c _ _) => some (.inr c)
    | _ => none
  | _ => none
/-- what is known of an own class, for isinstance -/
structure InsF (K : PySem.W.Frag) (C : Addr) : Prop where
  cl : Cls K C
  ha : PySem.W.findIn K (.ref C) "__class__" = some (some (.builtin "object.__class__"))
  hn : PySem.W.specialIn K (.builtin "object.__class__") "__get__" = some (some (.builtin "getset_descriptor.__get__"))
  ht : PySem.W.takesIn K (.builtin "object.__class__") = some true
  hm : PySem.W.mroIn K C (.type "object") = some true
theorem tag_at {c : Cf} {μ : List M} {d : D} {v : V} {t : Ty} (hF : ∀ x ∈ S.cls, InsF S.K (S.A x)) (I : SI S c μ) (r : rep S c.io c.F d v) (h : tagOf μ d = some t) : TyX S.K c.H v (tyv S t) := by
  have own : ∀ {a dx : Addr} {fs : List (Str × V)} {x : Str}, c.H a = some (.ins (S.A x) dx fs) → x ∈ S.cls → TyX S.K c.H (.ref a) (tyv S (.inr x)) := fun {a dx fs x} e m => .base (.ins e (hF x m).cl (hF x m).ha (hF x m).hn (hF x m).ht (hF x m).hm)
  cases d with
  | non => cases (show some (Sum.inl "NoneType" : Ty) = some t from h); rw [rep_non.mp r]; exact .base .non
  | bl k => cases (show some (Sum.inl "bool" : Ty) = some t from h); rw [rep_bl.mp r]; exact .base (.bl _)
  | int k => cases (show some (Sum.inl "int" : Ty) = some t from h); rw [rep_int.mp r]; exact .base (.int _)
  | str k => cases (show some (Sum.inl "str" : Ty) = some t from h); rw [(rep_str.mp r).1]; exact .base (.str _)
  | txt =>
    cases (show some (Sum.inl "str" : Ty) = some t from h)
    unfold rep at r
    obtain ⟨m, rfl⟩ := r
    exact .base (.str _)
  | tup l =>
    cases (show some (Sum.inl "tuple" : Ty) = some t from h)
    unfold rep at r
    obtain ⟨a, xs, rfl, h2, _⟩ := r
    rcases h2 with (h2 | ⟨ob, h2⟩) | ⟨ob, its, n, h2, h3, _⟩
    · exact .base (.tup (I.ex _ _ h2))
    · exact .fTuple (I.ex _ _ h2)
    · exact .kTuple h2 h3
  | lst l =>
    cases (show some (Sum.inl "list" : Ty) = some t from h)
    unfold rep at r
    obtain ⟨a, xs, rfl, h2, _⟩ := r
    exact .base (.lst (I.ex _ _ h2))
  | dct ks l =>
    cases (show some (Sum.inl "dict" : Ty) = some t from h)
    unfold rep at r
    obtain ⟨a, xs, rfl, h2, _⟩ := r
    exact .base (.dK (I.ex _ _ h2))
  | obj x ns l =>
    cases (show some (Sum.inr x : Ty) = some t from h)
    unfold rep at r
    obtain ⟨a, dx, fs, rfl, h2, _, _, h5⟩ := r
    exact own (I.ex _ _ h2) h5
  | cel i =>
    unfold rep at r
    obtain ⟨a, rfl, h2⟩ := r
    dsimp only [tagOf] at h
    cases e : μ[i]? with
    | none => rw [e] at h; cases h
    | some m =>
      rw [e] at h
      cases m with
      | lst l =>
        cases (show some (Sum.inl "list" : Ty) = some t from h)
        obtain ⟨_, xs, k2, _⟩ := I.cell i a _ h2 e
        exact .base (.lst k2)
      | dct ks l =>
        cases (show some (Sum.inl "dict" : Ty) = some t from h)
        obtain ⟨_, xs, k2, _⟩ := I.cell i a _ h2 e
        exact .base (.dK k2)
      | obj x ns l =>
        cases (show some (Sum.inr x : Ty) = some t from h)
        obtain ⟨_, dx, fs, k2, _⟩ := I.cell i a _ h2 e
        exact own k2 (I.cls i _ _ _ e)
      | dead => cases h
  | _ => cases h
/-! ### calls of built-ins -/
structure PDB (X : Cx) (S : Sx) (f : Value) (g : List M → List D → Option D) : Prop where
  ex : ∃ r, CallR X f r ∧ ∀ c μ xs l d Q, SI S c μ → reps S c.io c.F l xs → g μ l = some d → (∀ v c', Step S c c' → SI S c' μ → rep S c'.io c'.F d v → Q v c'.H) → r xs c.H Q
def dBlt (g : List M → List D → Option D) (ds : DA) : DE := fun env μ => (ds env μ).bind fun l μ1 => match g μ1 l with
  | some d => .ok d μ1
  | none => .stuck
theorem blt_run {r : List V → Hp → VK → Prop} {g : List M → List D → Option D} {ta : TA}
    (hr : ∀ c μ xs l d Q, SI S c μ → reps S c.io c.F l xs → g μ l = some d → (∀ v c', Step S c c' → SI S c' μ → rep S c'.io c'.F d v → Q v c'.H) → r xs c.H Q)
    (ka : ∀ env σ c μ Q, SI S c μ → EnvOk S c env σ → AQ S W σ c Q (ds env μ) → ta σ c.H Q) : ∀ env σ c μ Q, SI S c μ → EnvOk S c env σ → EQ S W σ c Q (dBlt g ds env μ) → tCB r ta σ c.H Q := by
  intro env σ c μ Q I en q
  refine (show ta σ c.H fun vs H1 => r vs H1 Q from ?_)
  refine bindAE (fun Q' => ka env σ c μ Q' I en) q fun l μ1 vs c1 s1 I1 r1 q1 => ?_
  cases e1 : g μ1 l with
  | none => rw [e1] at q1; exact False.elim q1
  | some d =>
    rw [e1] at q1
    exact hr c1 μ1 vs l d Q I1 r1 e1 q1
theorem pd_blt {x : Str} {id : String} {g : List M → List D → Option D} (o : PDB X S (.builtin id) g) (hg : Gl X x) (hm : X.mg x = none) (hv : bootBuiltins x = some (.builtin id)) (ha : PDA X S W (e :: es) ds)
    (hx : x ≠ "__name__" := by decide) (hdb : (x == ("__debug__" : Str)) = false := by decide) (he : starEach (e :: es) X.env = (false, eval e X.env) :: starEach es X.env := by rfl) (hpl : (backTo pos (starEach es X.env)).any (·.1) = false := by rfl) :
    PDE X S W (.Call (.Name x p) (e :: es) [] pos) (dBlt g ds) := by
  obtain ⟨r, hr, kr⟩ := o.ex
  obtain ⟨t, pa, ka⟩ := ha.ex
  exact ⟨_, pe_callB hr hg hm hv pa hx hdb he hpl, blt_run kr ka⟩
theorem pd_bty {x : Str} {T : String} {g : List M → List D → Option D} (o : PDB X S (.type T) g) (hg : Gl X x) (hm : X.mg x = none) (hv : bootBuiltins x = some (.type T)) (ha : PDA X S W (e :: es) ds)
    (hx : x ≠ "__name__" := by decide) (hdb : (x == ("__debug__" : Str)) = false := by decide) (he : starEach (e :: es) X.env = (false, eval e X.env) :: starEach es X.env := by rfl) (hpl : (backTo pos (starEach es X.env)).any (·.1) = false := by rfl) :
    PDE X S W (.Call (.Name x p) (e :: es) [] pos) (dBlt g ds) := by
  obtain ⟨r, hr, kr⟩ := o.ex
  obtain ⟨t, pa, ka⟩ := ha.ex
  exact ⟨_, pe_callTy hr hg hm hv pa hx hdb he hpl, blt_run kr ka⟩
/-- a built-in class as a value -/
theorem pd_bvl {x : Str} {T : String} (hg : Gl X x) (hm : X.mg x = none) (hv : bootBuiltins x = some (.type T)) (hx : x ≠ "__name__" := by decide) (hdb : (x == ("__debug__" : Str)) = false := by decide) : PDE X S W (.Name x pos) (dC (.ty T)) :=
  of_tC (v := .ty T) (pe_bltn hg hm hv rfl hx hdb) fun _ _ => by unfold rep; rfl
/-- a def or class of the module as a value -/
theorem pd_glo {x : Str} (hg : Gl X x) (hm : X.mg x = some (.ref (S.A x))) (hdb : (x == ("__debug__" : Str)) = false := by decide) : PDE X S W (.Name x pos) (dC (.glo x)) :=
  of_tC (v := .ref (S.A x)) (pe_glob hg hm rfl hdb) fun _ _ => by unfold rep; rfl
theorem pd_gstr {x z : Str} {t : Tok} (hg : Gl X x) (hm : X.mg x = some (.str z t)) (hz : okS z = true := by decide +kernel) (hdb : (x == ("__debug__" : Str)) = false := by decide) : PDE X S W (.Name x pos) (dC (.str z)) :=
  of_tC (v := .str z) (pe_glob hg hm ⟨_, rfl⟩ hdb) fun _ _ => rep_str.mpr ⟨rfl, hz⟩
/-! isinstance -/
def clsD : D → Option Ty
  | .ty n => some (.inl n)
  | .glo x => some (.inr x)
  | _ => none
def KitF (S : Sx) (u : Ty) : Prop := ∀ t ∈ tysOf S, PySem.W.kitOne S.K (tyv S t) (tyv S u) = some (isSub t u)
theorem tag_mem {c : Cf} {μ : List M} {d : D} {v : V} {t : Ty} (I : SI S c μ) (r : rep S c.io c.F d v) (h : tagOf μ d = some t) : t ∈ tysOf S := by
  have pl : ∀ n, n ∈ plainTys → (Sum.inl n : Ty) ∈ tysOf S := fun n m => List.mem_append_left _ (List.mem_map_of_mem m)
  have ow : ∀ x, x ∈ S.cls → (Sum.inr x : Ty) ∈ tysOf S := fun x m => List.mem_append_right _ (List.mem_map_of_mem m)
  cases d with
  | non => cases (show some (Sum.inl "NoneType" : Ty) = some t from h); exact pl _ (by decide)
  | bl k => cases (show some (Sum.inl "bool" : Ty) = some t from h); exact pl _ (by decide)
  | int k => cases (show some (Sum.inl "int" : Ty) = some t from h); exact pl _ (by decide)
  | str k => cases (show some (Sum.inl "str" : Ty) = some t from h); exact pl _ (by decide)
  | tup l => cases (show some (Sum.inl "tuple" : Ty) = some t from h); exact pl _ (by decide)
  | lst l => cases (show some (Sum.inl "list" : Ty) = some t from h); exact pl _ (by decide)
  | dct ks l => cases (show some (Sum.inl "dict" : Ty) = some t from h); exact pl _ (by decide)
  | obj x ns l =>
    cases (show some (Sum.inr x : Ty) = some t from h)
    unfold rep at r
    obtain ⟨a, dx, fs, _, _, _, _, h5⟩ := r
    exact ow x h5
  | txt => cases (show some (Sum.inl "str" : Ty) = some t from h); exact pl _ (by decide)
  | cel i =>
    dsimp only [tagOf] at h
    cases e : μ[i]? with
    | none => rw [e] at h; cases h
    | some m =>
      rw [e] at h
      cases m with
      | lst l => cases (show some (Sum.inl "list" : Ty) = some t from h); exact pl _ (by decide)
      | dct ks l => cases (show some (Sum.inl "dict" : Ty) = some t from h); exact pl _ (by decide)
      | obj x ns l => cases (show some (Sum.inr x : Ty) = some t from h); exact ow x (I.cls i _ _ _ e)
      | dead => cases h
  | _ => cases h
/-- isinstance against the class u -/
def bIsU (u : Ty) (μ : List M) : List D → Option D
  | [x, c] => if clsD c = some u then match tagOf μ x with
    | some t => some (.bl (isSub t u))
    | none => none
    else none
  | _ => none
theorem pb_isi (hK : X.K = S.K) (hF : ∀ x ∈ S.cls, InsF S.K (S.A x)) {u : Ty} (hu : KitF S u) : PDB X S (.builtin "isinstance") (bIsU u) := by
  refine ⟨_, call_isi, fun c μ xs l d Q I r e k => ?_⟩
  unfold bIsU at e
  split at e
  · rename_i x cc
    split at e
    · rename_i hc
      cases et : tagOf μ x with
      | none => rw [et] at e; cases e
      | some t =>
        rw [et] at e
        obtain rfl := Option.some.inj e
        obtain ⟨v, r0, rfl, r1, r2⟩ := r.uncons
        obtain ⟨v2, r0, rfl, r3, r4⟩ := r2.uncons
        rw [r4.eq_nil]
        have cv : ClsV v2 (tyv S u) := by
          cases cc with
          | ty n => cases (show some (Sum.inl n : Ty) = some u from hc); rw [rep_ty.mp r3]; exact .ty n
          | glo x => cases (show some (Sum.inr x : Ty) = some u from hc); rw [rep_glo.mp r3]; exact .own _
          | _ => cases hc
        refine ⟨v, v2, tyv S t, tyv S u, isSub t u, rfl, cv, ?_, ?_, k _ c I.step I (rep_bl.mpr rfl)⟩
        · rw [hK]; exact tag_at hF I r1 et
        · rw [hK]; exact hu t (tag_mem I r1 et)
    · cases e
  · cases e
/-! len -/
def bLen (μ : List M) : List D → Option D
  | [.str z] => if z.length ≤ 100000 then some (.int z.length) else none
  | [x] => match seqOf μ x with
    | some l => some (.int l.length)
    | none => none
  | _ => none
theorem pb_len (hK : X.K = S.K) : PDB X S (.builtin "len") bLen := by
  refine ⟨_, call_len, fun c μ xs l d Q I r e k => ?_⟩
  unfold bLen at e
  split at e
  · rename_i z
    split at e
    · rename_i hz
      obtain rfl := Option.some.inj e
      obtain ⟨v, r0, rfl, r1, r2⟩ := r.uncons
      rw [r2.eq_nil, (rep_str.mp r1).1]
      exact ⟨_, _, rfl, ⟨sz_of hz, rfl⟩, k _ c I.step I (rep_int.mpr rfl)⟩
    · cases e
  · rename_i x _
    cases es : seqOf μ x with
    | none => rw [es] at e; cases e
    | some l =>
      rw [es] at e
      obtain rfl := Option.some.inj e
      obtain ⟨v, r0, rfl, r1, r2⟩ := r.uncons
      obtain ⟨a, xs, rfl, h2, h3⟩ := seq_at I r1 es
      rw [r2.eq_nil]
      refine ⟨_, l.length, rfl, ?_, k _ c I.step I (rep_int.mpr rfl)⟩
      rw [hK, h3.len]
      rcases h2 with h2 | h2
      · exact Or.inl ⟨xs, h2, rfl⟩
      · exact Or.inr ⟨xs, h2, rfl⟩
  · cases e
/-! int, min, max, list, tuple, divmod, all, any, str -/
def bInt (_ : List M) : List D → Option D
  | [.int i] => some (.int i)
  | [.bl b] => some (.int (if b = true then 1 else 0))
  | _ => none
theorem pb_int : PDB X S (.type "int") bInt := by
  refine ⟨_, call_int1, fun c μ xs l d Q I r e k => ?_⟩
  unfold bInt at e
  split at e
  · obtain rfl := Option.some.inj e
    obtain ⟨v, r0, rfl, r1, r2⟩ := r.uncons
    rw [r2.eq_nil, rep_int.mp r1]
    exact Or.inl ⟨_, rfl, k _ c I.step I (rep_int.mpr rfl)⟩
  · obtain rfl := Option.some.inj e
    obtain ⟨v, r0, rfl, r1, r2⟩ := r.uncons
    rw [r2.eq_nil, rep_bl.mp r1]
    exact Or.inr ⟨_, rfl, k _ c I.step I (rep_int.mpr rfl)⟩
  · cases e
def bMin (_ : List M) : List D → Option D
  | [.int i, .int j] => some (.int (if j < i then j else i))
  | _ => none
def bMax (_ : List M) : List D → Option D
  | [.int i, .int j] => some (.int (if j > i then j else i))
  | _ => none
theorem pb_min (hc : X.calm = true) : PDB X S (.builtin "min") bMin := by
  refine ⟨_, call_min2 hc, fun c μ xs l d Q I r e k => ?_⟩
  unfold bMin at e
  split at e
  · obtain rfl := Option.some.inj e
    obtain ⟨v, r0, rfl, r1, r2⟩ := r.uncons
    obtain ⟨v2, r0, rfl, r3, r4⟩ := r2.uncons
    rw [r4.eq_nil, rep_int.mp r1, rep_int.mp r3]
    exact ⟨_, _, rfl, k _ c I.step I (rep_int.mpr rfl)⟩
  · cases e
def bDivmod (_ : List M) : List D → Option D
  | [.int i, .int j] => if 0 < j ∧ j < 1073741824 then some (.tup [.int (i / j), .int (i % j)]) else none
  | _ => none
theorem pb_divmod : PDB X S (.builtin "divmod") bDivmod := by
  refine ⟨_, call_divmod, fun c μ xs l d Q I r e k => ?_⟩
  unfold bDivmod at e
  split at e
  · rename_i i j
    split at e
    · rename_i hj
      obtain rfl := Option.some.inj e
      obtain ⟨v, r0, rfl, r1, r2⟩ := r.uncons
      obtain ⟨v2, r0, rfl, r3, r4⟩ := r2.uncons
      rw [r4.eq_nil, rep_int.mp r1, rep_int.mp r3]
      exact ⟨i, j, rfl, hj, fun p hp => new_tup I (.cons (rep_int.mpr rfl) (.cons (rep_int.mpr rfl) .nil)) k hp⟩
    · cases e
  · cases e
def bools : List D → Option (List Bool)
  | [] => some []
  | .bl b :: l => (bools l).map (b :: ·)
  | _ => none
theorem bools_at {io : List Addr} {F : Hp} : ∀ {l : List D} {xs : List V} {bs : List Bool}, reps S io F l xs → bools l = some bs → xs = bs.map V.bl
  | [], xs, bs, r, e => by cases (show some [] = some bs from e); rw [r.eq_nil]; rfl
  | .bl b :: l, xs, bs, r, e => by
    cases eb : bools l with
    | none => unfold bools at e; rw [eb] at e; cases e
    | some bs' =>
      unfold bools at e
      rw [eb] at e
      cases e
      obtain ⟨x, q, rfl, r1, r2⟩ := r.uncons
      rw [rep_bl.mp r1, bools_at r2 eb]; rfl
  | .non :: _, _, _, _, e => by cases e
  | .txt :: _, _, _, _, e => by cases e
  | .int _ :: _, _, _, _, e => by cases e
  | .str _ :: _, _, _, _, e => by cases e
  | .ty _ :: _, _, _, _, e => by cases e
  | .glo _ :: _, _, _, _, e => by cases e
  | .tup _ :: _, _, _, _, e => by cases e
  | .lst _ :: _, _, _, _, e => by cases e
  | .dct _ _ :: _, _, _, _, e => by cases e
  | .obj _ _ _ :: _, _, _, _, e => by cases e
  | .cel _ :: _, _, _, _, e => by cases e
  | .scr _ :: _, _, _, _, e => by cases e
  | .exc _ _ _ :: _, _, _, _, e => by cases e
def bAll (μ : List M) : List D → Option D
  | [x] => match lstOf μ x with
    | some l => (bools l).map fun bs => .bl (bs.all id)
    | none => none
  | _ => none
theorem pb_all (hK : X.K = S.K) (hc : X.calm = true) : PDB X S (.builtin "all") bAll := by
  refine ⟨_, cr_all hc, fun c μ xs l d Q I r e k => ?_⟩
  unfold bAll at e
  split at e
  · rename_i x
    cases es : lstOf μ x with
    | none => rw [es] at e; cases e
    | some l =>
      rw [es] at e
      dsimp only at e
      cases eb : bools l with
      | none => rw [eb] at e; cases e
      | some bs =>
        rw [eb] at e
        obtain rfl := Option.some.inj e
        obtain ⟨v, r0, rfl, r1, r2⟩ := r.uncons
        obtain ⟨a, ys, rfl, h2, h3⟩ := lst_at I r1 es
        rw [bools_at h3 eb] at h2
        rw [r2.eq_nil]
        exact ⟨a, bs, rfl, by rw [hK]; exact sq_of h2, k _ c I.step I (rep_bl.mpr rfl)⟩
  · cases e
theorem okS_of (s : String) : okS (Str.ofString s) = true := by
  have e : Str.ofString s = ⟨(s.toList.map Char.toNat).toArray⟩ := by
    first
    | exact Str.ofString_eq_toList s
    | exact PySem.Str.ofString_eq_toList s
  rw [e]
  unfold okS
  rw [← Array.all_toList, List.all_eq_true]
  intro n hn
  have hn' : n ∈ s.toList.map Char.toNat := by simpa using hn
  obtain ⟨ch, _, rfl⟩ := List.mem_map.mp hn'
  have hv := ch.valid
  have h2 : ch.toNat < 0x110000 := by
    rcases hv with h1 | h1
    · have : ch.toNat < 0xd800 := h1
      omega
    · exact h1.2
  exact decide_eq_true h2
end
end DL
namespace DL
open PySem PySem.Spec PyProof.Rows L2
section
variable {X : Cx} {S : Sx} {W : WX} {a b e o : Expr} {es : List Expr} {da db d : DE} {ds : DA} {pos p : Pos} {k : Nat} {x : Str} {f : Addr} {fd : FuncData} {ps : List Str} {np : Nat} {G : GF} {dd : List D}
/-! ### o.f = e -/
def putD (f : Str) (d : D) : List Str → List D → List Str × List D
  | n :: ns, y :: l => if n = f then (n :: ns, d :: l) else ((n :: (putD f d ns l).1), (y :: (putD f d ns l).2))
  | _, _ => ([f], [d])
theorem putD_reps {io : List Addr} {F : Hp} {f : Str} {d : D} {v : V} (rd : rep S io F d v) : ∀ {fs : List (Str × V)} {ns : List Str} {l : List D}, fs.map (·.1) = ns → reps S io F l (fs.map (·.2)) →
    (putF f v fs).map (·.1) = (putD f d ns l).1 ∧ reps S io F (putD f d ns l).2 ((putF f v fs).map (·.2))
  | [], ns, l, e, r => by
    subst e
    cases l with
    | nil => exact ⟨rfl, .cons rd .nil⟩
    | cons y l => obtain ⟨_, _, z, _⟩ := r.uncons; cases z
  | (n, u) :: fs, ns, l, e, r => by
    subst e
    cases l with
    | nil => cases r.eq_nil
    | cons y l =>
      obtain ⟨z, q, e1, r1, r2⟩ := r.uncons
      cases e1
      show (if n = f then (n, v) :: fs else (n, u) :: putF f v fs).map (·.1) = (if n = f then (n :: fs.map (·.1), d :: l) else ((n :: (putD f d (fs.map (·.1)) l).1), (y :: (putD f d (fs.map (·.1)) l).2))).1 ∧
        reps S io F (if n = f then (n :: fs.map (·.1), d :: l) else ((n :: (putD f d (fs.map (·.1)) l).1), (y :: (putD f d (fs.map (·.1)) l).2))).2 ((if n = f then (n, v) :: fs else (n, u) :: putF f v fs).map (·.2))
      by_cases h : n = f
      · rw [if_pos h, if_pos h]
        exact ⟨rfl, .cons rd r2⟩
      · rw [if_neg h, if_neg h]
        obtain ⟨k1, k2⟩ := putD_reps rd (f := f) (fs := fs) rfl r2
        exact ⟨by show n :: (putF f v fs).map (·.1) = _; rw [k1], .cons r1 k2⟩
def sFldSet (f : Str) (da de : DE) : DS := fun env μ => (de env μ).bindS env fun y μ1 => (da env μ1).bindS env fun x μ2 => match x with
  | .cel i => match μ2[i]? with
    | some (.obj c ns l) => if ns.length < 1000 then .nx env (μ2.set i (.obj c (putD f y ns l).1 (putD f y ns l).2)) else .stuck
    | _ => .stuck
  | _ => .stuck
theorem pds_fld {f : Str} {pos' : Pos} (hK : X.K = S.K) (hc : ClsOk S f) (ha : PDE X S W o da) (he : PDE X S W e d) (hs : swapsWith e (some (.Attribute o f pos')) pos.line X.env = pure false := by rfl) : PDS X S W (.Assign [.Attribute o f pos'] e pos) (sFldSet f da d) := by
  obtain ⟨ta, pa, ka⟩ := ha.ex
  obtain ⟨te, pe, ke⟩ := he.ex
  refine ⟨_, ps_fld pa pe hs, fun env σ c μ E I en q => ?_⟩
  refine (show te σ c.H fun y H1 => ta σ H1 fun x H2 => ∃ a C dx fs, x = .ref a ∧ H2 a = some (.ins C dx fs) ∧ Cls X.K C ∧ NoAttr X.K C f ∧ fs.length < 1000 ∧ E.nx σ (upd H2 a (.ins C dx (putF f y fs))) from ?_)
  refine bindES en (fun Q' => ke env σ c μ Q' I en) q fun y μ1 u c1 s1 I1 r1 q1 => ?_
  refine bindES (en.step s1) (fun Q' => ka env σ c1 μ1 Q' I1 (en.step s1)) q1 fun x μ2 v c2 s2 I2 r2 q2 => ?_
  cases x with
  | cel i =>
    try dsimp only at q2
    cases e1 : μ2[i]? with
    | none => rw [e1] at q2; exact False.elim q2
    | some m =>
      rw [e1] at q2
      cases m with
      | obj cl ns l =>
        dsimp only at q2
        by_cases hl : ns.length < 1000
        · rw [if_pos hl] at q2
          unfold rep at r2
          obtain ⟨a, rfl, h2⟩ := r2
          obtain ⟨k1, dx, fs, k2, k3, k4⟩ := I2.cell i a _ h2 e1
          have hm := I2.cls i _ _ _ e1
          obtain ⟨z1, z2⟩ := putD_reps (f := f) (s2.rep r1) k3 k4
          obtain ⟨I3, s3⟩ := I2.write (o := .ins (S.A cl) dx (putF f u fs)) (m := .obj cl (putD f y ns l).1 (putD f y ns l).2) h2 k1 ⟨k1, dx, putF f u fs, upd_same, z1, z2⟩ (fun x2 ns2 l2 e2 => by cases e2; exact hm)
          refine ⟨a, S.A cl, dx, fs, rfl, k2, by rw [hK]; exact (hc cl hm).1, by rw [hK]; exact (hc cl hm).2, ?_, q2 σ _ s3 I3 (((en.step s1).step s2).step s3)⟩
          rw [← k3, List.length_map] at hl
          exact hl
        · rw [if_neg hl] at q2; exact False.elim q2
      | _ => exact False.elim q2
  | _ => exact False.elim q2
/-! ### C(..), frozen behind its making -/
/-- a new instance, its __init__ with the bound values -/
theorem make_go {CX : CXT} {C : Addr} {sp : Sp} {E : XK} {pins : List (Addr × Obj)} {σ : St} {H : Hp} {s : Shared} {Q : VK} {us bs : List Value} {bv : List V} {kw : List (Str × Value)} (M0 : Mk X.K C f) (F : FnOk X.prog X.w X.K X.mg X.base CX k f fd ps sp) (hr : Room (k + 1) X.A)
    (hb : ∀ (s2 : Shared) (self : Value), X.K.In s2.heap → bs.length + 1 = ps.length → BindsTo s2 fd ⟨self :: us, kw⟩ (ps.zip (self :: bs))) (hx : PassesAt CX X σ E) (I : Inv X pins σ H s) (r : Vals bv bs)
    (h : ∀ x dx, H x = none → H dx = none → dx ≠ x → sp (.ref x :: bv) (upd (upd H dx (.own x)) x (.ins C dx [])) (fun v H2 => v = .non ∧ Q (.ref x) H2) E) :
    wpAny (model X.prog X.w) X.A (call (.ref C) us kw) (EP X pins σ Q) X.xe s := by
  have ne : s.heap.objs.size ≠ s.heap.objs.size + 1 := Nat.ne_of_lt (Nat.lt_succ_self _)
  have here := h (s.heap.objs.size + 1) s.heap.objs.size (I.hok.fresh (Nat.le_succ _)) (I.hok.fresh (Nat.le_refl _)) ne
  have J := Inv.made (C := C) I
  have rr : Vals (V.ref (s.heap.objs.size + 1) :: bv) (Value.ref (s.heap.objs.size + 1) :: bs) := .cons rfl r
  have len : bs.length + 1 = ps.length := by
    have z := F.len _ _ _ _ here
    rw [rr.length, List.length_cons] at z
    exact z
  refine wpAny_call (make_map (f := f) I.kIn M0.makes M0.init (beq_iff_eq.mp M0.fn) ?_)
  refine codeAny_mono (F.run _ X.stack _ _ ⟨Value.ref (s.heap.objs.size + 1) :: us, kw⟩ (Value.ref (s.heap.objs.size + 1) :: bs) _ _ E (hr.make C us kw) (J.env0.make C us kw) (hb _ _ J.kIn len) rr here) fun res s' hq => ?_
  match res, hq with
  | .error e, hq => exact hx pins _ _ e s' J hq
  | .ok (.ret u), hq =>
    obtain ⟨v, H', I3, rv, ev, q3⟩ := J.after hq
    subst ev
    exact ⟨rv, ⟨V.ref (s.heap.objs.size + 1), H', I3, rfl, q3⟩⟩
  | .ok .next, hq => exact False.elim hq
  | .ok .brk, hq => exact False.elim hq
  | .ok .cont, hq => exact False.elim hq
def dMake (c : Str) (np : Nat) (G : GF) (dd : List D) (ds : DA) : DE := fun env μ => (ds env μ).bind fun l μ1 => if (l ++ dd).length + 1 = np then match G (.cel μ1.length :: (l ++ dd)) (μ1 ++ [.obj c [] []]) with
    | .ok .non μ2 => match finD μ1.length μ2 (.cel μ1.length) with
      | some (d, μ3) => .ok d μ3
      | none => .stuck
    | .ok _ _ => .stuck
    | .ex x ns l' μ2 => match finL μ1.length μ2 l' with
      | some (l2, μ3) => .ex x ns l2 μ3
      | none => .stuck
    | .stuck => .stuck
  else .stuck
/-- behind the making: the new cell becomes a datum -/
theorem froz_new {c c' : Cf} {μ : List M} {n : Nat} (I : SI S c' μ) (hn : n = c.io.length) (s : Step S c c') : Step S c (froz c' n) ∧ (froz c' n).io = c.io := by
  have e : c'.io.take n = c.io := by
    obtain ⟨z, e⟩ := s.pre
    rw [← e, hn, List.take_left]
  refine ⟨⟨?_, I.nd.sublist (List.take_sublist _ _), s.exF.trans (froz_ex I n), fun p h1 h2 h3 => ?_, s.keep, fun p h1 h2 => ?_, s.som⟩, e⟩
  · show c.io <+: c'.io.take n
    rw [e]; exact List.prefix_refl _
  · have h3 : (if p ∈ c'.io.drop n then c'.H p else c'.F p) ≠ none := h3
    by_cases m : p ∈ c'.io.drop n
    · have ni : p ∉ c.io := fun q => by
        rw [← e] at q
        have hnd := I.nd
        rw [← List.take_append_drop n c'.io] at hnd
        exact (List.nodup_append.mp hnd).2.2 p q p m rfl
      exact absurd (s.new p (List.mem_of_mem_drop m) ni) h1
    · rw [if_neg m] at h3
      exact s.frz p h1 h2 h3
  · have h1 : p ∈ c'.io.take n := h1
    rw [e] at h1
    exact absurd h1 h2
/-- from what is wanted of the making to what is wanted of __init__ -/
theorem make_sp {c : Str} {σ : St} {c1 : Cf} {μ : List M} {Q : VK} {l : List D} {vs : List V} {x dx : Addr} (hc : c ∈ S.cls) (I : SI S c1 μ) (r : reps S c1.io c1.F l vs) (hn : l.length + 1 = np)
    (h1 : c1.H x = none) (h2 : c1.H dx = none) (h3 : dx ≠ x) (q : EQ S W σ c1 Q (match G (.cel μ.length :: l) (μ ++ [.obj c [] []]) with
      | .ok .non μ2 => match finD μ.length μ2 (.cel μ.length) with
        | some (d, μ3) => .ok d μ3
        | none => .stuck
      | .ok _ _ => .stuck
      | .ex x ns l' μ2 => match finL μ.length μ2 l' with
        | some (l2, μ3) => .ex x ns l2 μ3
        | none => .stuck
      | .stuck => .stuck)) :
    spD (at0 S 0) np G (.ref x :: vs) (upd (upd c1.H dx (.own x)) x (.ins (S.A c) dx [])) (fun v H2 => v = .non ∧ Q (.ref x) H2) (WE W σ) := by
  -- the dict of the instance
  have nio : ∀ p, c1.H p = none → p ∉ c1.io := fun p hp m => by
    obtain ⟨o, z⟩ := I.there m
    rw [hp] at z; cases z
  have I1 : SI S ⟨c1.io, c1.F, upd c1.H dx (.own x)⟩ μ := I.ghost (nio dx h2) (I.ex.back h2)
  have s1 : Step S c1 ⟨c1.io, c1.F, upd c1.H dx (.own x)⟩ := I.step.ghost h2
  have hx : (⟨c1.io, c1.F, upd c1.H dx (.own x)⟩ : Cf).H x = none := (upd_ne (Ne.symm h3)).trans h1
  obtain ⟨I2, s2⟩ := I1.alloc (p := x) (o := .ins (S.A c) dx []) (m := .obj c [] []) hx (fun io pre => ⟨I1.ex.back hx, dx, [], upd_same, rfl, .nil⟩) (fun x2 ns l2 e => by cases e; exact hc)
  have s12 := s1.trans s2
  have ln : μ.length = c1.io.length := I.len.symm
  have rc : rep S (c1.io ++ [x]) c1.F (.cel μ.length) (.ref x) := by
    unfold rep
    refine ⟨x, rfl, ?_⟩
    rw [ln, List.getElem?_append_right (Nat.le_refl _), Nat.sub_self]; rfl
  refine ⟨.cel μ.length :: l, _, _, _, ?_, SI_at.mpr I2, (reps_at _).mpr (.cons rc (s12.reps r)), ?_⟩
  · show vs.length + 1 = np
    rw [← r.len]; exact hn
  · cases eG : G (.cel μ.length :: l) (μ ++ [.obj c [] []]) with
    | stuck => rw [eG] at q; exact False.elim q
    | ok d μ2 =>
      rw [eG] at q
      intro v c3 s3 ei I3 r3
      have I3 := SI_at.mp I3
      have s3 : Step S _ c3 := Step.up (S := S) s3
      cases d with
      | non =>
        refine ⟨rep_non.mp r3, ?_⟩
        dsimp only at q
        cases ef : finD μ.length μ2 (.cel μ.length) with
        | none => rw [ef] at q; exact False.elim q
        | some pr =>
          obtain ⟨d', μ3⟩ := pr
          rw [ef] at q
          unfold finD at ef
          cases e1 : sub μ.length (rsv μ.length μ2 20) (.cel μ.length) with
          | none => rw [e1] at ef; cases ef
          | some d1 =>
            rw [e1] at ef
            cases e2 : subMs μ.length (rsv μ.length μ2 20) (μ2.take μ.length) with
            | none => rw [e2] at ef; cases ef
            | some μ1 =>
              rw [e2] at ef; cases ef
              obtain ⟨s4, ei4⟩ := froz_new I3 ln (s12.trans s3)
              have rc3 : rep S c3.io c3.F (.cel μ.length) (.ref x) := s3.rep rc
              exact q _ (froz c3 μ.length) s4 (froz_SI I3 (rsv_rep I3 20) e2) (sub_rep I3 (rsv_rep I3 20) _ e1 rc3)
      | _ => exact False.elim q
    | ex y ns l' μ2 =>
      rw [eG] at q
      dsimp only at q
      intro dd c3 s3 ei I3 r3
      have I3 := SI_at.mp I3
      have s3 : Step S _ c3 := Step.up (S := S) s3
      cases ef : finL μ.length μ2 l' with
      | none => rw [ef] at q; exact False.elim q
      | some pr =>
        obtain ⟨l2, μ3⟩ := pr
        rw [ef] at q
        unfold finL at ef
        cases e1 : subs μ.length (rsv μ.length μ2 20) l' with
        | none => rw [e1] at ef; cases ef
        | some d1 =>
          rw [e1] at ef
          cases e2 : subMs μ.length (rsv μ.length μ2 20) (μ2.take μ.length) with
          | none => rw [e2] at ef; cases ef
          | some μ1 =>
            rw [e2] at ef; cases ef
            obtain ⟨s4, ei4⟩ := froz_new I3 ln (s12.trans s3)
            refine q dd (froz c3 μ.length) s4 (froz_SI I3 (rsv_rep I3 20) e2) ?_
            rcases xrep_at.mp r3 with ⟨h5, h6, h7⟩ | ⟨a, fs, h5, h6, h7, h8⟩
            · subst h6
              cases (show some [] = some l2 from e1)
              exact Or.inl ⟨h5, rfl, h7⟩
            · exact Or.inr ⟨a, fs, h5, froz_ex I3 _ _ _ h6, h7, subs_rep I3 (rsv_rep I3 20) l' e1 h8⟩
/-- what is known of a class that is made by a call -/
structure MkF (S : Sx) (c : Str) (f : Addr) : Prop where
  mke : Mk S.K (S.A c) f
  mem : c ∈ S.cls
theorem pd_make {c : Str} (hK : X.K = S.K) (hM : MkF S c f) (F : FnOk X.prog X.w X.K X.mg X.base (L2M.CX md X.prog X.w) k f fd ps (spD (at0 S 0) np G)) (hr : Room (k + 1) X.A) (tk : L2M.Takes md X W) (hg : Gl X c) (hm : X.mg c = some (.ref (S.A c))) (hb : DflD S X.K fd ps dd)
    (ha : PDA X S W (e :: es) ds) (hdb : (c == ("__debug__" : Str)) = false := by decide) (he : starEach (e :: es) X.env = (false, eval e X.env) :: starEach es X.env := by rfl) (hpl : (backTo pos (starEach es X.env)).any (·.1) = false := by rfl) :
    PDE X S W (.Call (.Name c p) (e :: es) [] pos) (dMake c np G dd ds) := by
  obtain ⟨t, pa, ka⟩ := ha.ex
  obtain ⟨dvs, dV, h1, h2, h3⟩ := hb.ex
  refine ⟨fun σ H Q => t σ H fun vs H1 => ∀ x dx, H1 x = none → H1 dx = none → dx ≠ x → spD (at0 S 0) np G (.ref x :: (vs ++ dvs)) (upd (upd H1 dx (.own x)) x (.ins (S.A c) dx [])) (fun v H2 => v = .non ∧ Q (.ref x) H2) (WE W σ), ⟨fun pins s σ H Q I h => ?_⟩, fun env σ c1 μ Q I en q => ?_⟩
  · refine wpAny_Call_Name_kw (ld_glob I hg hm ?_ hdb)
    have kc : PySem.W.keepIn X.K (.ref (S.A c)) = true := by rw [hK]; exact hM.mke.kp
    have M1 : Mk X.K (S.A c) f := by rw [hK]; exact hM.mke
    refine PySem.W.callWith_K (h₀ := X.base) I.ok.mod.kin kc (thn (pa.run pos pins s σ H _ I h) fun us s1 ⟨vs, H1, I1, r, q⟩ => ⟨I1.kIn, ?_⟩) he hpl
    refine make_go (bs := us ++ dV) M1 F hr (fun s2 self k2 l2 => ?_) (L2M.passAt tk σ) I1 (r.append h2) q
    have z := h1 s2 (self :: us) k2 (by rw [List.cons_append, List.length_cons]; exact l2)
    rw [List.cons_append] at z
    exact z
  · refine bindAE (fun Q' => ka env σ c1 μ Q' I en) q fun l μ1 vs c2 s1 I1 r1 q1 => fun x dx hx hdx hne => ?_
    by_cases hn : (l ++ dd).length + 1 = np
    · rw [if_pos hn] at q1
      exact make_sp hM.mem I1 (r1.append (h3 _ _)) hn hx hdx hne q1
    · rw [if_neg hn] at q1; exact False.elim q1
end
end DL
namespace DL
open PySem PySem.Spec PyProof.Rows L2
section
variable {X : Cx} {S : Sx} {W : WX} {a b e o : Expr} {es : List Expr} {da db d : DE} {ds : DA} {pos p apos : Pos} {k : Nat} {x m c : Str} {f : Addr} {fd : FuncData} {ps : List Str} {np : Nat} {G : GF} {dd : List D}
/-! ### a promise, at the caller's own number of cells -/
theorem sp_at {σ : St} {c1 : Cf} {μ : List M} {Q : VK} {l : List D} {vs : List V} (I : SI S c1 μ) (r : reps S c1.io c1.F l vs) (hn : l.length = np) (q : EQ S W σ c1 Q (G l μ)) : spD (at0 S 0) np G vs c1.H Q (WE W σ) := by
  obtain ⟨ds', io, μ', F', k1, k2, k3, k4⟩ := call_sp I r hn q
  refine ⟨ds', io, μ', F', k1, SI_at.mpr k2, (reps_at _).mpr k3, ?_⟩
  cases eo : G ds' μ' with
  | ok d μ2 => rw [eo] at k4; exact fun v c' s ei I' r' => k4 v c' s ei (SI_at.mp I') ((rep_at _).mp r')
  | ex y ns l' μ2 => rw [eo] at k4; exact fun dd c' s ei I' r' => k4 dd c' s ei (SI_at.mp I') (xrep_at.mp r')
  | stuck => rw [eo] at k4; exact k4
/-! ### o.m(..) -/
theorem fld_none {f : Str} : ∀ {fs : List (Str × V)} {ns : List Str} {l : List D}, fs.map (·.1) = ns → l.length = ns.length → fldOf f ns l = none → fs.lookup f = none
  | [], _, _, _, _, _ => rfl
  | (n, v) :: fs, ns, l, e, hl, h => by
    subst e
    cases l with
    | nil => cases hl
    | cons d l =>
      have h' : (if f = n then some d else fldOf f (fs.map (·.1)) l) = none := h
      by_cases hf : f = n
      · rw [if_pos hf] at h'; cases h'
      · rw [if_neg hf] at h'
        have hb : (f == n) = false := by simpa using hf
        rw [List.lookup_cons, hb]
        exact fld_none rfl (Nat.succ.inj hl) h'
def dMeth (c m : Str) (np : Nat) (G : GF) (dd : List D) (da : DE) (ds : DA) : DE := fun env μ => (da env μ).bind fun x μ1 => if clsAt μ1 x = some c ∧ (fldAt μ1 m x).isNone = true then (ds env μ1).bind fun l μ2 => if (x :: (l ++ dd)).length = np then G (x :: (l ++ dd)) μ2 else .stuck
  else .stuck
/-- what is known of a method -/
structure MtF (S : Sx) (c m : Str) (f : Addr) : Prop where
  cls : Cls S.K (S.A c)
  meth : Meth S.K (S.A c) m f
theorem meth_recv {c1 : Cf} {μ : List M} {d : D} {v : V} (I : SI S c1 μ) (r : rep S c1.io c1.F d v) (h : clsAt μ d = some c) (hn : (fldAt μ m d).isNone = true) : ∃ a dx fs, v = .ref a ∧ c1.H a = some (.ins (S.A c) dx fs) ∧ fs.lookup m = none := by
  obtain ⟨a, dx, fs, ns, l, h1, h2, h3, h4, h5, _⟩ := obj_at I r h
  refine ⟨a, dx, fs, h1, h2, fld_none h3 ?_ (by rw [← h5]; simpa using hn)⟩
  rw [h4.len, ← h3, List.length_map, List.length_map]
theorem pd_meth0 {pl : Sem Bool} (hK : X.K = S.K) (hM : MtF S c m f) (F : FnOk X.prog X.w X.K X.mg X.base (L2M.CX md X.prog X.w) k f fd ps (spD (at0 S 0) np G)) (hr : Room k X.A) (tk : L2M.Takes md X W) (hb : DflD S X.K fd (ps) dd) (hap : PDE X S W o da)
    (ht : eval (.Call (.Attribute o m apos) [] [] pos) X.env = (do
      let ov ← eval o X.env
      standAt apos.atName
      let (f, first) ← holding [ov] (getMethod ov m pl)
      callWith pos f first (backTo pos (starEach [] X.env)) (backToKw pos (keywordEach [] X.env))) := by rfl) :
    PDE X S W (.Call (.Attribute o m apos) [] [] pos) (dMeth c m np G dd da aNil) := by
  obtain ⟨to, po, ko⟩ := hap.ex
  obtain ⟨dvs, dV, h1, h2, h3⟩ := hb.ex
  refine ⟨fun σ H Q => to σ H fun x H1 => ∃ a dx fs, x = .ref a ∧ H1 a = some (.ins (S.A c) dx fs) ∧ fs.lookup m = none ∧ spD (at0 S 0) np G (x :: dvs) H1 Q (WE W σ), ⟨fun pins s σ H Q I h => ?_⟩, fun env σ c1 μ Q I en q => ?_⟩
  · refine PySem.W.methodCall_KW (pl := pl) (thn (po.run pins s σ H _ I h) fun u s1 ⟨x, H1, I1, rx, a, dx, fs, ex, ea, l, q⟩ => ?_) ht
    subst ex
    obtain rfl : u = Value.ref a := rx
    have M1 : Meth X.K (S.A c) m f := by rw [hK]; exact hM.meth
    have C1 : Cls X.K (S.A c) := by rw [hK]; exact hM.cls
    refine getmeth_ok I1 ea C1 M1 l ?_
    exact PySem.W.callWith_K0 (first := [.ref a]) I1.kIn M1.kp (run_fnSD (E := WE W) (us := [.ref a]) (vs := [.ref a]) F hr h1 h2 (L2M.passAt tk σ) I1 (.cons rfl .nil) q)
  · refine bindE (fun Q' => ko env σ c1 μ Q' I en) q fun x μ1 v c2 s1 I1 r1 q1 => ?_
    by_cases hc : clsAt μ1 x = some c ∧ (fldAt μ1 m x).isNone = true
    · rw [if_pos hc] at q1
      obtain ⟨a, dx, fs, rfl, z1, z2⟩ := meth_recv I1 r1 hc.1 hc.2
      refine ⟨a, dx, fs, rfl, z1, z2, ?_⟩
      have q1 : EQ S W σ c2 Q (if (x :: ([] ++ dd)).length = np then G (x :: ([] ++ dd)) μ1 else .stuck) := q1
      by_cases hn : (x :: ([] ++ dd)).length = np
      · rw [if_pos hn] at q1
        exact sp_at (l := x :: ([] ++ dd)) (vs := .ref a :: dvs) I1 (.cons r1 (h3 _ _)) hn q1
      · rw [if_neg hn] at q1; exact False.elim q1
    · rw [if_neg hc] at q1; exact False.elim q1
/-! ### f(), C() -/
/-! ### raise X('..') -/
structure ExF (S : Sx) (x : Str) : Prop where
  exc : PySem.W.excIn S.K (S.A x) He.veBase "ValueError.__new__" = true
  kp : PySem.W.keepIn S.K (.ref (S.A x)) = true
  sb : PySem.W.subIn S.K (.ref (S.A x)) (.type "BaseException") = some true
  ty : PySem.W.typeIn S.K (.ref (S.A x)) = some (.type "type")
def sRaise (x : Str) : DS := fun env μ => .ex x [] [] env μ
theorem pds_raise {z : Str} {j : Nat} {p2 pos2 : Pos} (hK : X.K = S.K) (hx : ExF S x) (hc : X.calm = true) (tk : L2M.Takes md X W) (hg : Gl X x) (hm : X.mg x = some (.ref (S.A x))) (hdb : (x == ("__debug__" : Str)) = false := by decide) :
    PDS X S W (.Raise (some (.Call (.Name x p) [.Constant (.str z) j p2] [] pos)) none pos2) (sRaise x) := by
  refine ⟨_, L2N.ps_raise hc tk.n (L2N.pmk_own PySem.F.excBase_ValueError (by rw [hK]; exact hx.exc) hm (by rw [hK]; exact hx.kp) (raises_own (by rw [hK]; exact hx.sb) (by rw [hK]; exact hx.ty)) hg hdb), fun env σ c μ E I en q => ?_⟩
  exact q none σ c I.step I en (Or.inl ⟨rfl, rfl, rfl⟩)
end
end DL
namespace DL
open PySem PySem.Spec PyProof.Rows L2
/-! ### a new list handed back, to be changed by the caller -/
section
variable {S : Sx} {io : List Addr} {F : Hp} {n : Nat}
mutual
theorem rep_clean : ∀ (d : D) {v : V}, clean n d = true → rep S io F d v → rep S (io.take n) F d v
  | .cel i, v, h, r => by
    unfold clean at h
    unfold rep at r ⊢
    obtain ⟨a, h1, h2⟩ := r
    exact ⟨a, h1, by rw [List.getElem?_take_of_lt (of_decide_eq_true h)]; exact h2⟩
  | .tup l, v, h, r => by
    unfold clean at h
    unfold rep at r ⊢
    obtain ⟨a, xs, h1, h2, h3⟩ := r
    exact ⟨a, xs, h1, h2, reps_clean l h h3⟩
  | .lst l, v, h, r => by
    unfold clean at h
    unfold rep at r ⊢
    obtain ⟨a, xs, h1, h2, h3⟩ := r
    exact ⟨a, xs, h1, h2, reps_clean l h h3⟩
  | .dct ks l, v, h, r => by
    unfold clean at h
    unfold rep at r ⊢
    obtain ⟨a, xs, h1, h2, h3, h4⟩ := r
    exact ⟨a, xs, h1, h2, h3, reps_clean l h h4⟩
  | .obj c ns l, v, h, r => by
    unfold clean at h
    unfold rep at r ⊢
    obtain ⟨a, dx, xs, h1, h2, h3, h4, h5⟩ := r
    exact ⟨a, dx, xs, h1, h2, h3, reps_clean l h h4, h5⟩
  | .exc c ns l, v, h, r => by unfold clean at h; cases h
  | .non, v, _, r => by unfold rep at r ⊢; exact r
  | .txt, v, _, r => by unfold rep at r ⊢; exact r
  | .bl _, v, _, r => by unfold rep at r ⊢; exact r
  | .int _, v, _, r => by unfold rep at r ⊢; exact r
  | .str _, v, _, r => by unfold rep at r ⊢; exact r
  | .ty _, v, _, r => by unfold rep at r ⊢; exact r
  | .glo _, v, _, r => by unfold rep at r ⊢; exact r
  | .scr _, v, _, r => by unfold rep at r ⊢; exact r
theorem reps_clean : ∀ (l : List D) {vs : List V}, cleans n l = true → reps S io F l vs → reps S (io.take n) F l vs
  | [], vs, _, r => by rw [r.eq_nil]; exact .nil
  | d :: l, vs, h, r => by
    obtain ⟨x, q, rfl, r1, r2⟩ := r.uncons
    unfold cleans at h
    have h' := Bool.and_eq_true_iff.mp h
    exact .cons (rep_clean d h'.1 r1) (reps_clean l h'.2 r2)
end
end
theorem SI.cut {S : Sx} {c : Cf} {μ : List M} {n : Nat} (I : SI S c μ) (h : (μ.take n).all (cleanM n) = true) : SI S ⟨c.io.take n, c.F, c.H⟩ (μ.take n) := by
  refine ⟨I.ex, by rw [List.length_take, List.length_take, I.len], I.nd.sublist (List.take_sublist _ _), fun i a m h1 h2 => ?_, fun i x ns l e => ?_⟩
  · have h1 : (c.io.take n)[i]? = some a := h1
    have hi : i < n := by
      have := (List.getElem?_eq_some_iff.mp h1).1
      rw [List.length_take] at this; omega
    rw [List.getElem?_take_of_lt hi] at h1
    have hm := List.all_eq_true.mp h m (List.mem_of_getElem? h2)
    rw [List.getElem?_take_of_lt hi] at h2
    have k := I.cell i a m h1 h2
    cases m with
    | lst l =>
      obtain ⟨k1, xs, k2, k3⟩ := k
      exact ⟨k1, xs, k2, reps_clean l hm k3⟩
    | dct ks l =>
      obtain ⟨k1, xs, k2, k3, k4⟩ := k
      exact ⟨k1, xs, k2, k3, reps_clean l hm k4⟩
    | obj x ns l =>
      obtain ⟨k1, dx, fs, k2, k3, k4⟩ := k
      exact ⟨k1, dx, fs, k2, k3, reps_clean l hm k4⟩
    | dead => exact k
  · have hi : i < n := by
      have := (List.getElem?_eq_some_iff.mp e).1
      rw [List.length_take] at this; omega
    rw [List.getElem?_take_of_lt hi] at e
    exact I.cls i x ns l e
theorem cut_step {S : Sx} {c c' : Cf} {μ : List M} {n : Nat} (I : SI S c' μ) (hn : n = c.io.length) (s : Step (at0 S n) c c') : Step (at0 S n) c ⟨c'.io.take n, c'.F, c'.H⟩ ∧ c'.io.take n = c.io := by
  have e : c'.io.take n = c.io := by
    obtain ⟨z, e⟩ := s.pre
    rw [← e, hn, List.take_left]
  refine ⟨⟨?_, I.nd.sublist (List.take_sublist _ _), s.exF, s.frz, s.keep, fun p h1 h2 => ?_, s.som⟩, e⟩
  · show c.io <+: c'.io.take n
    rw [e]; exact List.prefix_refl _
  · have h1 : p ∈ c'.io.take n := h1
    rw [e] at h1
    exact absurd h1 h2
abbrev GN := List D → List M → Out (List D)
def NQ (S : Sx) (c : Cf) (Q : VK) (E : XK) : Out (List D) → Prop
  | .ok l μ => ∀ p xs c', c.H p = none → Step (at0 S c.io.length) c c' → c'.io = c.io → SI S c' μ → Ghost c' p → c'.H p = some (.lst xs) → reps S c'.io c'.F l xs → Q (.ref p) c'.H
  | .ex x ns l μ => ∀ dd c', Step (at0 S c.io.length) c c' → c'.io = c.io → SI S c' μ → xrep S c' ns l dd → E (.ref (S.A x)) dd c'.H
  | .stuck => False
def spN (S : Sx) (np : Nat) (G : GN) : Sp := fun vs H Q E => ∃ ds io μ F, vs.length = np ∧ SI S ⟨io, F, H⟩ μ ∧ reps S io F ds vs ∧ NQ S ⟨io, F, H⟩ Q E (G ds μ)
def finN (n : Nat) : SO → Out (List D)
  | .rt (.cel i) μ => if n ≤ i ∧ (μ.take n).all (cleanM n) = true then match μ[i]? with
    | some (.lst l) => if cleans n l = true then .ok l (μ.take n) else .stuck
    | _ => .stuck
    else .stuck
  | .ex x ns l _ μ => match finL n μ l with
    | some (l', μ') => .ex x ns l' μ'
    | none => .stuck
  | _ => .stuck
def fnN (nN np : Nat) (body : DS) : GN := fun ds μ => if ds.length = np then finN μ.length (body (start nN ds) μ) else .stuck
theorem bodyN_of {S : Sx} {c : Cf} {Q : VK} {E : XK} {n : Nat} (hn : n = c.io.length) : ∀ {o : SO}, NQ S c Q E (finN n o) → SQ (at0 S n) (fun cls d _ H => E cls d H) c { nx := fun _ H' => Q .non H', rt := Q } o
  | .rt (.cel i) μ, h => fun v c' s I r => by
    dsimp only [finN] at h
    have I0 := SI_at.mp I
    by_cases hc : n ≤ i ∧ (μ.take n).all (cleanM n) = true
    · rw [if_pos hc] at h
      cases e : μ[i]? with
      | none => rw [e] at h; exact False.elim h
      | some m =>
        rw [e] at h
        cases m with
        | lst l =>
          dsimp only at h
          by_cases hl : cleans n l = true
          · rw [if_pos hl] at h
            have r0 := (rep_at (S := S) (n := n) _).mp r
            unfold rep at r0
            obtain ⟨a, rfl, h2⟩ := r0
            obtain ⟨k1, xs, k2, k3⟩ := I0.cell i a _ h2 e
            obtain ⟨s2, ei⟩ := cut_step I0 hn s
            have ni : a ∉ c'.io.take n := fun m => by
              obtain ⟨j, hj, ej⟩ := List.getElem_of_mem m
              rw [List.length_take] at hj
              rw [List.getElem_take] at ej
              have hj2 : j < c'.io.length := by omega
              have e2 : c'.io[j]? = some a := by rw [List.getElem?_eq_getElem hj2, ej]
              have := nodup_at I0.nd e2 h2
              omega
            have fresh : c.H a = none := s.new a (List.mem_of_getElem? h2) (by rw [← ei]; exact ni)
            subst hn
            exact h a xs ⟨c'.io.take c.io.length, c'.F, c'.H⟩ fresh s2 ei (I0.cut hc.2) ⟨ni, k1, by show c'.H a ≠ none; rw [k2]; exact fun z => nomatch z⟩ k2 (reps_clean l hl k3)
          · rw [if_neg hl] at h; exact False.elim h
        | _ => exact False.elim h
    · rw [if_neg hc] at h; exact False.elim h
  | .ex x ns l en μ, h => fun dd σ' c' s I en' r => by
    dsimp only [finN] at h
    have I0 := SI_at.mp I
    cases e : finL n μ l with
    | none => rw [e] at h; exact False.elim h
    | some p =>
      obtain ⟨l', μ'⟩ := p
      rw [e] at h
      unfold finL at e
      cases e1 : subs n (rsv n μ 20) l with
      | none => rw [e1] at e; cases e
      | some d1 =>
        rw [e1] at e
        cases e2 : subMs n (rsv n μ 20) (μ.take n) with
        | none => rw [e2] at e; cases e
        | some μ1 =>
          rw [e2] at e; cases e
          obtain ⟨s2, ei⟩ := froz_step I0 hn s
          subst hn
          refine h dd (froz c' c.io.length) s2 ei (froz_SI I0 (rsv_rep I0 20) e2) ?_
          rcases xrep_at.mp r with ⟨h5, h6, h7⟩ | ⟨a, fs, h5, h6, h7, h8⟩
          · subst h6
            cases (show some [] = some l' from e1)
            exact Or.inl ⟨h5, rfl, h7⟩
          · exact Or.inr ⟨a, fs, h5, froz_ex I0 _ _ _ h6, h7, subs_rep I0 (rsv_rep I0 20) l e1 h8⟩
  | .rt .non _, h => False.elim h
  | .rt .txt _, h => False.elim h
  | .rt (.bl _) _, h => False.elim h
  | .rt (.int _) _, h => False.elim h
  | .rt (.str _) _, h => False.elim h
  | .rt (.ty _) _, h => False.elim h
  | .rt (.glo _) _, h => False.elim h
  | .rt (.tup _) _, h => False.elim h
  | .rt (.lst _) _, h => False.elim h
  | .rt (.dct _ _) _, h => False.elim h
  | .rt (.obj _ _ _) _, h => False.elim h
  | .rt (.scr _) _, h => False.elim h
  | .rt (.exc _ _ _) _, h => False.elim h
  | .nx _ _, h => False.elim h
  | .bk _ _, h => False.elim h
  | .ct _ _, h => False.elim h
  | .stuck, h => False.elim h
section
variable {P : Program} {w : World} {K : PySem.W.Frag} {mg : Str → Option Value} {base : Heap} {x qual : Str} {params : Arguments} {body : List Stmt} {scope : Scope} {dvs : List V} {kws : List (Str × V)} {f : Addr} {fd : FuncData}
theorem fnN_ok {N ps : List Str} {k : Nat} {S : Sx} {D : DS} (F : FunD K x qual params body scope dvs kws f fd) (Sc : FnScope N ps scope)
    (hb : ∀ (n : Nat) (cdv : Value) (A : Around) (outer : List Env) (s : Shared) (H : Hp) (E : XK), Room k (A.deeper (envOfC qual scope s.heap.objs.size f cdv)) →
      PDSs (cxOf (L2M.CX md P w) P w K mg base N qual scope f cdv A outer s H E) (at0 S n) (fun cls d _ H => E cls d H) body D) :
    FnOk P w K mg base (L2M.CX md P w) (k + 1) f fd ps (spN S ps.length (fnN N.length ps.length D)) := by
  refine F.ok Sc (fun vs H Q E h => ?_) (fun cdv A outer s H vs Q E hr h => ?_)
  · obtain ⟨_, _, _, _, h, _⟩ := h
    exact h
  · obtain ⟨ds, io, μ, F0, hl, I, r, q⟩ := h
    obtain ⟨t, p, kk⟩ := (hb io.length cdv A outer s H E hr).ex
    refine ⟨t, p, kk (start N.length ds) (L2.start N vs) ⟨io, F0, H⟩ μ _ (SI_at.mpr I) (start_ok ((reps_at ds).mpr r)) ?_⟩
    have e : ds.length = ps.length := r.len.trans hl
    have q : NQ S ⟨io, F0, H⟩ Q E (if ds.length = ps.length then finN μ.length (D (start N.length ds) μ) else .stuck) := q
    rw [if_pos e, show μ.length = io.length from I.len.symm] at q
    exact bodyN_of rfl q
end
section
variable {X : Cx} {S : Sx} {W : WX} {a b e o : Expr} {es : List Expr} {da db d : DE} {ds : DA} {pos p apos : Pos} {k : Nat} {x m c : Str} {f : Addr} {fd : FuncData} {ps : List Str} {np : Nat} {G : GF} {GL : GN} {dd : List D}
/-- return [..], as a cell -/
def sRetC (ds : DA) : DS := fun env μ => (ds env μ).bindS env fun l μ1 => if l.length ≤ 100000 then .rt (.cel μ1.length) (μ1 ++ [.lst l]) else .stuck
theorem pds_retC {lpos : Pos} (ha : PDA X S W es ds) : PDS X S W (.Return (some (.List es lpos)) pos) (sRetC ds) := by
  obtain ⟨t, pa, ka⟩ := ha.ex
  refine ⟨_, ps_ret (pe_lst pa), fun env σ c μ E I en q => ?_⟩
  refine (show t σ c.H fun xs H1 => xs.length ≤ sizeLine ∧ ∀ p, H1 p = none → E.rt (.ref p) (upd H1 p (.lst xs)) from ?_)
  refine bindAS en (fun Q' => ka env σ c μ Q' I en) q fun l μ1 vs c1 s1 I1 r1 q1 => ?_
  by_cases h : l.length ≤ 100000
  · rw [if_pos h] at q1
    refine ⟨by rw [← r1.len]; exact sz_of h, fun p hp => ?_⟩
    obtain ⟨I', s⟩ := I1.alloc (p := p) (o := .lst vs) (m := .lst l) hp fun io pre => ⟨I1.ex.back hp, vs, upd_same, reps.mono pre (Ex.refl _) l r1⟩
    refine q1 _ _ s I' ?_
    unfold rep
    refine ⟨p, rfl, ?_⟩
    show (c1.io ++ [p])[μ1.length]? = some p
    rw [← I1.len, List.getElem?_append_right (Nat.le_refl _), Nat.sub_self]; rfl
  · rw [if_neg h] at q1; exact False.elim q1
/-! ### x = (a new list), as a cell -/
structure PDL (X : Cx) (S : Sx) (W : WX) (e : Expr) (d : DA) : Prop where
  ex : ∃ t, PE X e t ∧ ∀ env σ c μ (Q : VK), SI S c μ → EnvOk S c env σ → (match d env μ with
    | .ok l μ' => ∀ p xs c', c.H p = none → Step S c c' → SI S c' μ' → Ghost c' p → c'.H p = some (.lst xs) → reps S c'.io c'.F l xs → Q (.ref p) c'.H
    | .ex x ns l μ' => XQ S W σ c x ns l μ'
    | .stuck => False) → t σ c.H Q
/-- a ghost becomes a cell -/
theorem SI.adopt {c c1 : Cf} {μ : List M} {p : Addr} {xs : List V} {l : List D} (I : SI S c μ) (g : Ghost c p) (hH : c.H p = some (.lst xs)) (r : reps S c.io c.F l xs) (s : Step S c1 c) (hp : c1.H p = none) :
    SI S ⟨c.io ++ [p], c.F, c.H⟩ (μ ++ [.lst l]) ∧ Step S c1 ⟨c.io ++ [p], c.F, c.H⟩ := by
  have pre : c.io <+: c.io ++ [p] := List.prefix_append _ _
  have nd : (c.io ++ [p]).Nodup := List.nodup_append.mpr ⟨I.nd, by simp, fun a ha b hb => by
    have : b = p := by simpa using hb
    rw [this]; intro z; rw [z] at ha; exact g.io ha⟩
  refine ⟨⟨I.ex, by rw [List.length_append, List.length_append, I.len]; rfl, nd, fun i a m' h1 h2 => ?_, fun i x ns l' h => ?_⟩, ⟨s.pre.trans pre, nd, s.exF, s.frz, s.keep, fun q h1 h2 => ?_, s.som⟩⟩
  · by_cases hi : i < c.io.length
    · have h1' : c.io[i]? = some a := by
        have h1 : (c.io ++ [p])[i]? = some a := h1
        rw [List.getElem?_append_left hi] at h1; exact h1
      have h2' : μ[i]? = some m' := by
        rw [List.getElem?_append_left (by rw [← I.len]; exact hi)] at h2; exact h2
      have k := I.cell i a m' h1' h2'
      cases m' with
      | lst l =>
        obtain ⟨k1, xs, k2, k3⟩ := k
        exact ⟨k1, xs, k2, reps.mono pre (Ex.refl _) _ k3⟩
      | dct ks l =>
        obtain ⟨k1, xs, k2, k3, k4⟩ := k
        exact ⟨k1, xs, k2, k3, reps.mono pre (Ex.refl _) _ k4⟩
      | obj x ns l =>
        obtain ⟨k1, dx, fs, k2, k3, k4⟩ := k
        exact ⟨k1, dx, fs, k2, k3, reps.mono pre (Ex.refl _) _ k4⟩
      | dead => exact k
    · have h1 : (c.io ++ [p])[i]? = some a := h1
      have hl : i < (c.io ++ [p]).length := (List.getElem?_eq_some_iff.mp h1).1
      rw [List.length_append] at hl
      have ei : i = c.io.length := by
        have : [p].length = 1 := rfl
        omega
      have e1 : a = p := by
        rw [ei, List.getElem?_append_right (Nat.le_refl _), Nat.sub_self] at h1
        simpa using h1.symm
      have e2 : m' = .lst l := by
        rw [ei, I.len, List.getElem?_append_right (Nat.le_refl _), Nat.sub_self] at h2
        simpa using h2.symm
      rw [e1, e2]
      exact ⟨g.F, xs, hH, reps.mono pre (Ex.refl _) l r⟩
  · by_cases hi : i < μ.length
    · rw [List.getElem?_append_left hi] at h
      exact I.cls i x ns l' h
    · have hl : i < (μ ++ [M.lst l]).length := (List.getElem?_eq_some_iff.mp h).1
      rw [List.length_append] at hl
      have ei : i = μ.length := by
        have : [M.lst l].length = 1 := rfl
        omega
      rw [ei, List.getElem?_append_right (Nat.le_refl _), Nat.sub_self] at h
      cases h
  · by_cases hm : q ∈ c.io
    · exact s.new q hm h2
    · have : q = p := by
        rcases List.mem_append.mp (show q ∈ c.io ++ [p] from h1) with h | h
        · exact absurd h hm
        · simpa using h
      rw [this]; exact hp
theorem pds_newL {i : Nat} {pos' : Pos} (hN : X.N.Nodup) (hi : X.N[i]? = some x) (hx : Loc X.env.scope x) (ha : PDL X S W e ds) (hs : swapsWith e (some (.Name x pos')) pos.line X.env = pure false := by rfl)
    (hf : X.fn x = true ∨ X.env.scope.names.lookup x = some .local := by first | exact .inl rfl | exact .inr rfl) : PDS X S W (.Assign [.Name x pos'] e pos) (sNew i ds) := by
  obtain ⟨t, pa, ka⟩ := ha.ex
  refine ⟨_, ps_set hN hi hx pa hs hf, fun env σ c μ E I en q => ?_⟩
  refine (show t σ c.H fun x H1 => E.nx (σ.set i (some x)) H1 from ?_)
  have q : SQ S W c E ((ds env μ).bindS env fun l μ1 => .nx (env.set i (some (.cel μ1.length))) (μ1 ++ [.lst l])) := q
  refine ka env σ c μ _ I en ?_
  cases e1 : ds env μ with
  | ok l μ1 =>
    rw [e1] at q
    intro p xs c1 hp s1 I1 g1 hH r1
    obtain ⟨I2, s2⟩ := I1.adopt g1 hH r1 s1 hp
    refine q _ ⟨c1.io ++ [p], c1.F, c1.H⟩ s2 I2 ((en.step s2).set ?_ i)
    unfold rep
    refine ⟨p, rfl, ?_⟩
    show (c1.io ++ [p])[μ1.length]? = some p
    rw [← I1.len, List.getElem?_append_right (Nat.le_refl _), Nat.sub_self]; rfl
  | ex x ns l μ1 => rw [e1] at q; exact fun dd c' s I' r => q dd σ c' s I' (en.step s) r
  | stuck => rw [e1] at q; exact q
/-- list(x) -/
def dListN (ds : DA) : DA := fun env μ => (ds env μ).bind fun l μ1 => match l with
  | [x] => match seqOf μ1 x with
    | some l => .ok l μ1
    | none => .stuck
  | _ => .stuck
/-- f(..), f of such a promise -/
def dCallN (np : Nat) (G : GN) (dd : List D) (ds : DA) : DA := fun env μ => (ds env μ).bind fun l μ1 => if (l ++ dd).length = np then G (l ++ dd) μ1 else .stuck
theorem pdl_call (F : FnOk X.prog X.w X.K X.mg X.base (L2M.CX md X.prog X.w) k f fd ps (spN (at0 S 0) np GL)) (hr : Room k X.A) (tk : L2M.Takes md X W) (hg : Gl X x) (hm : X.mg x = some (.ref f)) (hk : PySem.W.keepIn X.K (.ref f) = true) (hb : DflD S X.K fd ps dd)
    (ha : PDA X S W (e :: es) ds) (hdb : (x == ("__debug__" : Str)) = false := by decide) (he : starEach (e :: es) X.env = (false, eval e X.env) :: starEach es X.env := by rfl) (hpl : (backTo pos (starEach es X.env)).any (·.1) = false := by rfl) :
    PDL X S W (.Call (.Name x p) (e :: es) [] pos) (dCallN np GL dd ds) := by
  obtain ⟨t, pa, ka⟩ := ha.ex
  obtain ⟨dvs, dV, h1, h2, h3⟩ := hb.ex
  refine ⟨_, pe_callSD F hr hg hm hk h1 h2 (fun σ => L2M.passAt tk σ) pa hdb he hpl, fun env σ c μ Q I en q => ?_⟩
  refine (show t σ c.H fun vs H1 => spN (at0 S 0) np GL (vs ++ dvs) H1 Q (WE W σ) from ?_)
  refine ka env σ c μ _ I en ?_
  unfold dCallN at q
  cases e1 : ds env μ with
  | stuck => rw [e1] at q; exact q
  | ex x ns l μ1 => rw [e1] at q; exact q
  | ok l μ1 =>
    rw [e1] at q
    dsimp only [Out.bind] at q
    intro vs c1 s1 I1 r1
    by_cases hn : (l ++ dd).length = np
    · rw [if_pos hn] at q
      refine ⟨l ++ dd, c1.io, μ1, c1.F, ?_, SI_at.mpr I1, (reps_at _).mpr (r1.append (h3 _ _)), ?_⟩
      · rw [← (r1.append (h3 c1.io c1.F)).len]; exact hn
      · cases eo : GL (l ++ dd) μ1 with
        | stuck => rw [eo] at q; exact q
        | ok l2 μ2 =>
          rw [eo] at q
          intro p xs c' hp s ei I' g' hH r'
          have s := Step.up (S := S) s
          refine q p xs c' ?_ (s1.trans s) (SI_at.mp I') g' hH ((reps_at _).mp r')
          cases e2 : c.H p with
          | none => rfl
          | some o => exact absurd hp (s1.som p (by rw [e2]; exact fun z => nomatch z))
        | ex y ns l' μ2 =>
          rw [eo] at q
          exact fun dd c' s ei I' r' => q dd c' (s1.trans (Step.up (S := S) s)) (SI_at.mp I') (xrep_at.mp r')
    · rw [if_neg hn] at q; exact q.elim
end
end DL
/-! ### the head's facts, with one more test -/
namespace DL
open PySem PySem.Spec PyProof.Rows L2 He
theorem obsXG_eq {n : Nat} {chk : PySem.W.Frag → Bool} {fa : List Fa} {fn : List DefD} {g : Addr → Option Obj} {s : Shared} (h : ∀ a, g a = s.heap.get? a) : obsXG n chk fa fn g = (hookX n chk fa fn).obs s := by
  have e : g = s.heap.get? := funext h
  rw [e] <;> rfl
theorem saysX {chk : PySem.W.Frag → Bool} {fa : List Fa} {fn : List DefD} {K : PySem.W.Frag} (h : obsX chk fa fn K = (true, valD fn)) : chk K = true ∧ SaysD fa fn K := ⟨congrArg (fun z : AlX => z.1) h, congrArg (fun z : AlX => z.2) h⟩
/-! ### what is known of a def, a class, a method -/
structure CalD (md : Bool) (P : Program) (w : World) (K : PySem.W.Frag) (mg : Str → Option Value) (base : Heap) (S : Sx) (k : Nat) (x : Str) (np : Nat) (G : GF) (dfl : List D) : Prop where
  ex : ∃ (f : Addr) (fd : FuncData) (ps : List Str), mg x = some (.ref f) ∧ PySem.W.keepIn K (.ref f) = true ∧ (∀ j, j ≤ dfl.length → DflD S K fd ps (dfl.drop j)) ∧ FnOk P w K mg base (L2M.CX md P w) k f fd ps (spD S np G)
structure CalN (md : Bool) (P : Program) (w : World) (K : PySem.W.Frag) (mg : Str → Option Value) (base : Heap) (S : Sx) (k : Nat) (x : Str) (np : Nat) (G : GN) (dfl : List D) : Prop where
  ex : ∃ (f : Addr) (fd : FuncData) (ps : List Str), mg x = some (.ref f) ∧ PySem.W.keepIn K (.ref f) = true ∧ (∀ j, j ≤ dfl.length → DflD S K fd ps (dfl.drop j)) ∧ FnOk P w K mg base (L2M.CX md P w) k f fd ps (spN S np G)
structure MetD (md : Bool) (P : Program) (w : World) (K : PySem.W.Frag) (mg : Str → Option Value) (base : Heap) (S : Sx) (k : Nat) (c m : Str) (np : Nat) (G : GF) (dfl : List D) : Prop where
  ex : ∃ (f : Addr) (fd : FuncData) (ps : List Str), MtF S c m f ∧ (∀ j, j ≤ dfl.length → DflD S K fd ps (dfl.drop j)) ∧ FnOk P w K mg base (L2M.CX md P w) k f fd ps (spD S np G)
structure MakD (md : Bool) (P : Program) (w : World) (K : PySem.W.Frag) (mg : Str → Option Value) (base : Heap) (S : Sx) (k : Nat) (c : Str) (np : Nat) (G : GF) (dfl : List D) : Prop where
  ex : ∃ (f : Addr) (fd : FuncData) (ps : List Str), mg c = some (.ref (S.A c)) ∧ MkF S c f ∧ (∀ j, j ≤ dfl.length → DflD S K fd ps (dfl.drop j)) ∧ FnOk P w K mg base (L2M.CX md P w) k f fd ps (spD S np G)
theorem DflD.at0 {S : Sx} {n : Nat} {K : PySem.W.Frag} {fd : FuncData} {ps : List Str} {dd : List D} (h : DflD S K fd ps dd) : DflD (at0 S n) K fd ps dd := by
  obtain ⟨a, b, h1, h2, h3⟩ := h.ex
  exact ⟨a, b, h1, h2, fun io F => (reps_at _).mpr (h3 io F)⟩
section
variable {X : Cx} {S0 : Sx} {n : Nat} {W : WX} {e o : Expr} {es : List Expr} {da : DE} {ds : DA} {pos p apos : Pos} {k kr : Nat} {x m c : Str} {np : Nat} {G : GF} {GL : GN} {dfl : List D}
theorem pd_c (C : CalD md X.prog X.w X.K X.mg X.base (at0 S0 0) k x np G dfl) (hr : Room kr X.A) (hk : k ≤ kr) (j : Nat) (hj : j ≤ dfl.length) (tk : L2M.Takes md X W) (hg : Gl X x) (ha : PDA X (at0 S0 n) W (e :: es) ds)
    (hdb : (x == ("__debug__" : Str)) = false := by decide) (he : starEach (e :: es) X.env = (false, eval e X.env) :: starEach es X.env := by rfl) (hpl : (backTo pos (starEach es X.env)).any (·.1) = false := by rfl) :
    PDE X (at0 S0 n) W (.Call (.Name x p) (e :: es) [] pos) (dCall np G (dfl.drop j) ds) := by
  obtain ⟨f, fd, ps, h1, h2, h3, h4⟩ := C.ex
  exact pd_call (S := at0 S0 n) h4 (hr.mono hk) tk hg h1 h2 ((h3 j hj).at0 (n := n)) ha hdb he hpl
theorem pdl_c (C : CalN md X.prog X.w X.K X.mg X.base (at0 S0 0) k x np GL dfl) (hr : Room kr X.A) (hk : k ≤ kr) (j : Nat) (hj : j ≤ dfl.length) (tk : L2M.Takes md X W) (hg : Gl X x) (ha : PDA X (at0 S0 n) W (e :: es) ds)
    (hdb : (x == ("__debug__" : Str)) = false := by decide) (he : starEach (e :: es) X.env = (false, eval e X.env) :: starEach es X.env := by rfl) (hpl : (backTo pos (starEach es X.env)).any (·.1) = false := by rfl) :
    PDL X (at0 S0 n) W (.Call (.Name x p) (e :: es) [] pos) (dCallN np GL (dfl.drop j) ds) := by
  obtain ⟨f, fd, ps, h1, h2, h3, h4⟩ := C.ex
  exact pdl_call (S := at0 S0 n) h4 (hr.mono hk) tk hg h1 h2 ((h3 j hj).at0 (n := n)) ha hdb he hpl
theorem pd_m0 {pl : Sem Bool} (hK : X.K = S0.K) (C : MetD md X.prog X.w X.K X.mg X.base (at0 S0 0) k c m np G dfl) (hr : Room kr X.A) (hk : k ≤ kr) (j : Nat) (hj : j ≤ dfl.length) (tk : L2M.Takes md X W) (hap : PDE X (at0 S0 n) W o da)
    (ht : eval (.Call (.Attribute o m apos) [] [] pos) X.env = (do
      let ov ← eval o X.env
      standAt apos.atName
      let (f, first) ← holding [ov] (getMethod ov m pl)
      callWith pos f first (backTo pos (starEach [] X.env)) (backToKw pos (keywordEach [] X.env))) := by rfl) :
    PDE X (at0 S0 n) W (.Call (.Attribute o m apos) [] [] pos) (dMeth c m np G (dfl.drop j) da aNil) := by
  obtain ⟨f, fd, ps, h1, h3, h4⟩ := C.ex
  exact pd_meth0 (S := at0 S0 n) hK ⟨h1.cls, h1.meth⟩ h4 (hr.mono hk) tk ((h3 j hj).at0 (n := n)) hap ht
theorem pd_mk (hK : X.K = S0.K) (C : MakD md X.prog X.w X.K X.mg X.base (at0 S0 0) k c np G dfl) (hr : Room kr X.A) (hk : k + 1 ≤ kr) (j : Nat) (hj : j ≤ dfl.length) (tk : L2M.Takes md X W) (hg : Gl X c) (ha : PDA X (at0 S0 n) W (e :: es) ds)
    (hdb : (c == ("__debug__" : Str)) = false := by decide) (he : starEach (e :: es) X.env = (false, eval e X.env) :: starEach es X.env := by rfl) (hpl : (backTo pos (starEach es X.env)).any (·.1) = false := by rfl) :
    PDE X (at0 S0 n) W (.Call (.Name c p) (e :: es) [] pos) (dMake c np G (dfl.drop j) ds) := by
  obtain ⟨f, fd, ps, h1, h2, h3, h4⟩ := C.ex
  exact pd_make (S := at0 S0 n) hK ⟨h2.mke, h2.mem⟩ h4 (hr.mono hk) tk hg h1 ((h3 j hj).at0 (n := n)) ha hdb he hpl
theorem takesNo : L2M.Takes md X wNo := match md with
  | true => fun _ _ ⟨_, _, _, _, _, _, _, _, _, _, _, _, _, _, _, _, z⟩ => z.elim
  | false => fun _ _ ⟨_, _, _, _, _, _, _, _, _, _, _, _, _, _, _, _, z⟩ => z.elim
/-- a module's text, int, by its fact -/
theorem pd_gstrE {S : Sx} {z : Str} (hg : Gl X x) (hm : ∃ t, X.mg x = some (.str z t)) (hz : okS z = true := by decide +kernel) (hdb : (x == ("__debug__" : Str)) = false := by decide) : PDE X S W (.Name x pos) (dC (.str z)) := by
  obtain ⟨t, h⟩ := hm
  exact pd_gstr hg h hz hdb
end
end DL
namespace DL
open PySem PySem.Spec PyProof.Rows L2
section
variable {X : Cx} {S : Sx} {W : WX} {a b e o : Expr} {es : List Expr} {da db dc d : DE} {pos apos : Pos} {k : Nat}
/-! ### a < b < c -/
/-! ### a, b = x, y -/
def sPar (i j : Nat) (ds : DA) : DS := fun env μ => (ds env μ).bindS env fun l μ2 => match l with
  | [x, y] => .nx ((env.set i (some x)).set j (some y)) μ2
  | _ => .stuck
/-! ### methods of texts -/
structure PDM (X : Cx) (S : Sx) (id : String) (g : List M → Str → List D → Option D) : Prop where
  ex : ∃ r, MtR X id r ∧ ∀ c μ x xs l d Q, SI S c μ → okS x = true → reps S c.io c.F l xs → g μ x l = some d → (∀ v c', Step S c c' → SI S c' μ → rep S c'.io c'.F d v → Q v c'.H) → r (.str x) xs c.H Q
def dM0 (g : List M → Str → List D → Option D) (da : DE) : DE := fun env μ => (da env μ).bind fun x μ1 => match x with
  | .str x => match g μ1 x [] with
    | some d => .ok d μ1
    | none => .stuck
  | _ => .stuck
def dM1 (g : List M → Str → List D → Option D) (da db : DE) : DE := fun env μ => (da env μ).bind fun x μ1 => match x with
  | .str x => (db env μ1).bind fun y μ2 => match g μ2 x [y] with
    | some d => .ok d μ2
    | none => .stuck
  | _ => .stuck
theorem pd_sm1 {id : String} {name : Str} {g : List M → Str → List D → Option D} (m : PDM X S id g) (slot : Slot "str" name id) (ty : typeOf (.builtin id) = pure (.type "method_descriptor")) (ha : PDE X S W o da) (hb : PDE X S W e db)
    (hs : starEach [e] X.env = [(false, eval e X.env)] := by rfl) (hbase : attributeBase o name X.env (eval o X.env) = eval o X.env := by rfl) (hline : (apos.endLine == pos.line) = true := by rfl) :
    PDE X S W (.Call (.Attribute o name apos) [e] [] pos) (dM1 g da db) := by
  obtain ⟨r, hm, hr⟩ := m.ex
  obtain ⟨ta, pa, ka⟩ := ha.ex
  obtain ⟨tb, pb, kb⟩ := hb.ex
  refine ⟨_, pe_m1 slot ty hm pa pb hs hbase hline, fun env σ c μ Q I en q => ?_⟩
  refine (show ta σ c.H fun x H1 => (∃ a, x = .str a) ∧ tb σ H1 fun y H2 => r x [y] H2 Q from ?_)
  refine bindE (fun Q' => ka env σ c μ Q' I en) q fun x μ1 v c1 s1 I1 r1 q1 => ?_
  cases x with
  | str x =>
    obtain ⟨rfl, ok⟩ := rep_str.mp r1
    refine ⟨⟨x, rfl⟩, bindE (fun Q' => kb env σ c1 μ1 Q' I1 (en.step s1)) q1 fun y μ2 u c2 s2 I2 r2 q2 => ?_⟩
    cases e : g μ2 x [y] with
    | none => rw [e] at q2; exact q2.elim
    | some d =>
      rw [e] at q2
      exact hr c2 μ2 x [u] [y] d Q I2 ok (by unfold reps; exact ⟨u, [], rfl, r2, by unfold reps; rfl⟩) e fun v c' s' I' r' => q2 v c' s' I' r'
  | _ => exact q1.elim
/-! ### join -/
def strsOf : List D → Option (List Str)
  | [] => some []
  | .str x :: l => (strsOf l).map (x :: ·)
  | _ => none
theorem reps_strs : ∀ {l : List D} {ys : List Str} {io : List Addr} {F : Hp} {xs : List V}, strsOf l = some ys → reps S io F l xs → xs = ys.map V.str ∧ ∀ y ∈ ys, okS y = true
  | [], ys, io, F, xs, e, r => by
    obtain rfl := Option.some.inj e
    unfold reps at r
    subst r
    exact ⟨rfl, fun y h => nomatch h⟩
  | d :: l, ys, io, F, xs, e, r => by
    cases d with
    | str x =>
      unfold strsOf at e
      cases h : strsOf l with
      | none => rw [h] at e; cases e
      | some zs =>
        rw [h] at e
        obtain rfl := Option.some.inj e
        unfold reps at r
        obtain ⟨v, w, rfl, r1, r2⟩ := r
        obtain ⟨rfl, ok⟩ := rep_str.mp r1
        obtain ⟨rfl, k⟩ := reps_strs h r2
        exact ⟨rfl, fun y m => by
          rcases List.mem_cons.mp m with rfl | m
          · exact ok
          · exact k y m⟩
    | _ => cases e
theorem okS_nil : okS ⟨#[]⟩ = true := by decide +kernel
theorem okS_join {y : Str} (hy : okS y = true) : ∀ (l : List Str), (∀ x ∈ l, okS x = true) → okS (Str.join y l) = true
  | [], _ => okS_nil
  | [x], h => h x List.mem_cons_self
  | x :: z :: r, h => okS_append (okS_append (h x List.mem_cons_self) hy) (okS_join hy (z :: r) fun w m => h w (List.mem_cons_of_mem _ m))
def dJoin (μ : List M) (x : Str) (l : List D) : Option D := match l with
  | [d] => (lstOf μ d).bind fun l => (strsOf l).bind fun ys => if (ys.map (·.length)).sum + ys.length * x.length ≤ 100000 then some (.str (Str.join x ys)) else none
  | _ => none
theorem pm_join (hK : X.K = S.K) : PDM X S "str.join" dJoin := by
  refine ⟨_, mt_join, fun c μ x xs l d Q I ok r1 e q => ?_⟩
  unfold dJoin at e
  split at e
  · rename_i dd
    unfold reps at r1
    obtain ⟨v, r, rfl, r1, r2⟩ := r1
    unfold reps at r2
    subst r2
    cases h : lstOf μ dd with
    | none => rw [h] at e; cases e
    | some l =>
      rw [h] at e
      cases h2 : strsOf l with
      | none => rw [Option.bind_some, h2] at e; cases e
      | some ys =>
        rw [Option.bind_some, h2, Option.bind_some] at e
        split at e
        · rename_i hl
          obtain rfl := Option.some.inj e
          obtain ⟨p, zs, rfl, k1, k2⟩ := lst_at I r1 h
          obtain ⟨rfl, k⟩ := reps_strs h2 k2
          refine ⟨x, p, ys, rfl, rfl, .inl (by rw [hK]; exact sq_of k1), Nat.le_trans hl (by decide), ?_⟩
          rw [TL.join_eq]
          exact q _ c I.step I (rep_str.mpr ⟨rfl, okS_join ok ys k⟩)
        · cases e
  · cases e
/-! ### text * int -/
/-! ### text[::-1] -/
def revS (x : Str) : Str := ⟨x.cps.toList.reverse.toArray⟩
theorem okS_revS {x : Str} (h : okS x = true) : okS (revS x) = true := by
  unfold okS at h ⊢
  unfold revS
  rw [Array.all_eq_true_iff_forall_mem] at h ⊢
  intro y hy
  exact h y (by simpa using hy)
theorem rev_pick (z : Str) : (Builtin.Str.strSliceIndices none none (-1) z.length).filterMap (z.cps[·]?) = z.cps.toList.reverse := by
  show ((sliceRange ((z.cps.size : Int) - 1) (-1) (-1)).filterMap (z.cps[·]?)) = _
  rw [PySem.W.krv_sliceRange, PySem.W.krv_range, List.filterMap_reverse, PySem.W.krv_all]
theorem pe_revS {te : TE} {k : Nat} {p1 p2 p3 : Pos} (he : PE X e te) : PE X (.Subscript e (.Slice none none (some (.UnaryOp .USub (.Constant (.int 1) k p1) p2)) p3) pos)
    (fun σ H Q => te σ H fun x H1 => ∃ z : Str, x = .str z ∧ z.length ≤ 100000 ∧ Q (.str (revS z)) H1) := by
  refine ⟨fun pins s σ H Q I h => ?_⟩
  refine Subscript_ (thn (he.run pins s σ H _ I h) fun v s1 ⟨x, H1, I1, r1, q1⟩ => ?_)
  obtain ⟨z, rfl, hz, q⟩ := q1
  obtain ⟨t, rfl⟩ := r1
  have hst : PO X (some (.UnaryOp .USub (.Constant (.int 1) k p1) p2)) (tPart (tUn (rU fun i => .int (-i)) (tC (.int 1)))) := po_some (pe_un un_neg pe_int)
  refine wpAny_Slice (thn (po_none.run pins s1 σ H1 (fun o H2 => o = none ∧ H2 = H1) I1 ⟨rfl, rfl⟩) fun vl s2 ⟨l, H2, I2, pl, el, e2⟩ => ?_)
  subst el e2
  refine thn (po_none.run pins s2 σ H2 (fun o H3 => o = none ∧ H3 = H2) I2 ⟨rfl, rfl⟩) fun vu s3 ⟨u, H3, I3, pu, eu, e3⟩ => ?_
  subst eu e3
  refine thn (hst.run pins s3 σ H3 (fun o H4 => o = some (-1) ∧ H4 = H3) I3 ⟨1, rfl, -1, rfl, rfl, rfl⟩) fun vs s4 ⟨o, H4, I4, ps, eo, e4⟩ => ?_
  subst eo e4
  have I5 : Inv X pins σ H4 { s4 with heap := s4.heap.push { cls := .type "slice", data := .fields #[vl, vu, vs] } } := I4.kept (t' := s4.toks) fun b ob q => Heap.get?_push_of_some _ q
  obtain ⟨l, rfl, el⟩ := IsPart.raw pl
  obtain ⟨u, rfl, eu⟩ := IsPart.raw pu
  obtain ⟨w, rfl, ew⟩ := IsPart.raw ps
  cases l with
  | some _ => cases el
  | none =>
  cases u with
  | some _ => cases eu
  | none =>
  cases w with
  | none => cases ew
  | some w =>
  have ew : w.1 = -1 := Option.some.inj ew
  refine tail_any (ops := [.str z t, .ref s4.heap.objs.size]) (typeIs_str _ _ _) F.slot_str_getitem.lookup ?_ (by with_unfolding_all rfl)
  refine wpAny_getItem_str_slice (l := none) (u := none) (st := some w) ⟨_, Heap.get?_push_size _ rfl, rfl, rfl⟩ (by show (w.1 == 0) = false; rw [ew]; rfl) ?_
  show Made.post (if (w.1 == 1 && (Builtin.Str.strSliceIndices none none w.1 z.length).length == z.length) = true then Made.val (.str z t)
    else Made.str ⟨((Builtin.Str.strSliceIndices none none w.1 z.length).filterMap (z.cps[·]?)).toArray⟩) (EP X pins σ Q) _
  rw [ew, rev_pick, show ((-1 : Int) == 1) = false from rfl, Bool.false_and, if_neg Bool.false_ne_true]
  refine ⟨?_, .str (revS z), H4, I5.tok _, ⟨_, rfl⟩, q⟩
  show (z.cps.toList.reverse.toArray).size ≤ _
  rw [List.size_toArray, List.length_reverse, Array.length_toList, sizeLine_eq]
  have : z.cps.size ≤ 100000 := hz
  omega
def dRevS (da : DE) : DE := fun env μ => (da env μ).bind fun x μ1 => match x with
  | .str z => if z.length ≤ 100000 then .ok (.str (revS z)) μ1 else .stuck
  | _ => .stuck
theorem pd_revS {kk : Nat} {p1 p2 p3 : Pos} (ha : PDE X S W a da) : PDE X S W (.Subscript a (.Slice none none (some (.UnaryOp .USub (.Constant (.int 1) kk p1) p2)) p3) pos) (dRevS da) := by
  obtain ⟨ta, pa, ka⟩ := ha.ex
  refine ⟨_, pe_revS pa, fun env σ c μ Q I en q => ?_⟩
  show ta σ c.H fun x H1 => ∃ z : Str, x = .str z ∧ z.length ≤ 100000 ∧ Q (.str (revS z)) H1
  refine bindE (fun Q' => ka env σ c μ Q' I en) q fun x μ1 v c1 s1 I1 r1 q1 => ?_
  cases x with
  | str z =>
    obtain ⟨rfl, ok⟩ := rep_str.mp r1
    dsimp only at q1
    split at q1
    · rename_i hl
      exact ⟨z, rfl, hl, q1 _ c1 I1.step I1 (rep_str.mpr ⟨rfl, okS_revS ok⟩)⟩
    · exact q1.elim
  | _ => exact q1.elim
end
end DL
namespace DL
open PySem PySem.Spec PyProof.Rows L2
/-! ### <, <=, >, >= of alike data -/
end DL
namespace DL
open PySem PySem.Spec PyProof.Rows L2
/-! ### the ends: the law's def, from its value -/
theorem law_sp {S : Sx} {G : GF} {H : Hp} {a : Addr} {ns : List Int} (h : ∃ μ, G [.scr ns] [] = .ok (.bl true) μ) (hS : SqL S.K H a (ns.map V.int)) : spD S 1 G [.ref a] H (fun v _ => v = .bl true) (fun _ _ _ => False) := by
  obtain ⟨μ, h⟩ := h
  refine ⟨[.scr ns], [], [], H, rfl, ⟨fun _ _ e => e, rfl, List.nodup_nil, fun i a m h => by simp at h, fun i x ns l h => by simp at h⟩, ?_, ?_⟩
  · unfold reps
    refine ⟨.ref a, [], rfl, ?_, by unfold reps; rfl⟩
    unfold rep
    exact ⟨a, rfl, hS⟩
  · rw [h]
    exact fun v c' _ _ _ r => rep_bl.mp r
theorem insB_ok {K : PySem.W.Frag} {C : Addr} (hc : Cls K C) (h : insB K C = true) : InsF K C := by
  unfold insB at h
  obtain ⟨h1, h⟩ := Bool.and_eq_true_iff.mp h
  obtain ⟨h2, h⟩ := Bool.and_eq_true_iff.mp h
  obtain ⟨h3, h4⟩ := Bool.and_eq_true_iff.mp h
  exact ⟨hc, He.eqO_ok h1, He.eqO_ok h2, of_decide_eq_true h3, of_decide_eq_true h4⟩
theorem kitB_ok {S : Sx} {u : Ty} (h : kitB S u = true) : KitF S u := fun t m => of_decide_eq_true (List.all_eq_true.mp h t m)
theorem exF_of {K : PySem.W.Frag} {x : Str} {cls : List Str} {n : Nat} (c : (He.Fa.exc x).ok K = true) : ExF (at0 ⟨K, He.ga K, 0, [], cls⟩ n) x := by
  obtain ⟨h1, h2, h3, h4⟩ := He.exc_ok c
  exact ⟨h1, h2, h3, h4⟩
/-- what a call lets out, in any world -/
def CXA (P : Program) : CXT := fun outer H s E u s' => ∃ w, L2M.CX true P w outer H s E u s'
theorem cxA_false {P : Program} {H : Hp} {s : Shared} {e : Value} {s' : Shared} (h : CXA P [] H s (fun _ _ _ => False) e s') : False := by
  obtain ⟨_, _, _, _, _, _, _, _, _, _, _, _, _, h⟩ := h
  exact h
theorem fnOk_any {P : Program} {w : World} {K : PySem.W.Frag} {mg : Str → Option Value} {base : Heap} {k : Nat} {f : Addr} {fd : FuncData} {ps : List Str} {sp : Sp} (F : FnOk P w K mg base (L2M.CX md P w) k f fd ps sp) : FnOk P w K mg base (CXA P) k f fd ps sp :=
  ⟨F.len, fun A outer s H args us vs Q E hr he hb hv hs => codeAny_mono (F.run A outer s H args us vs Q E hr he hb hv hs) fun r s' h => by
    cases r with
    | error e => exact ⟨w, L2M.cx_top h⟩
    | ok o => cases o <;> exact h⟩
end DL
namespace DL
open PySem PySem.Spec PyProof.Rows L2
/-! ### what a denotation comes to: its value, by what is asked behind it. The boxes keep what is asked behind out of simp's sight -/
abbrev XP := Str → List Str → List D → List M → Prop
structure Kt {α : Type} (Q : α → List M → Prop) (X : XP) : Type where
structure Ko {α : Type} (Q : α → Prop) : Type where
structure Ks (N : En → List M → Prop) (R : D → List M → Prop) (B C : En → List M → Prop) (X : Str → List Str → List D → En → List M → Prop) : Type where
def WO {α : Type} (o : Out α) (Q : α → List M → Prop) (X : XP) (_ : Kt Q X) : Prop := match o with
  | .ok x μ => Q x μ
  | .ex c ns l μ => X c ns l μ
  | .stuck => False
def OP {α : Type} (o : Option α) (Q : α → Prop) (_ : Ko Q) : Prop := match o with
  | some d => Q d
  | none => False
def WS (o : SO) (N : En → List M → Prop) (R : D → List M → Prop) (B C : En → List M → Prop) (X : Str → List Str → List D → En → List M → Prop) (_ : Ks N R B C X) : Prop := match o with
  | .nx e μ => N e μ
  | .rt d μ => R d μ
  | .bk e μ => B e μ
  | .ct e μ => C e μ
  | .ex c ns l e μ => X c ns l e μ
  | .stuck => False
def xNo : XP := fun _ _ _ _ => False
section
variable {α β : Type} {Q : α → List M → Prop} {X : XP} {k : Kt Q X} {N : En → List M → Prop} {R : D → List M → Prop} {B C : En → List M → Prop} {Z : Str → List Str → List D → En → List M → Prop} {ks : Ks N R B C Z} {env : En} {μ : List M}
theorem WO.mono {o : Out α} {Q' : α → List M → Prop} {X' : XP} (h : WO o Q X k) (q : ∀ x m, Q x m → Q' x m) (x : ∀ c ns l m, X c ns l m → X' c ns l m) : WO o Q' X' ⟨⟩ := by
  cases o with
  | ok a m => exact q a m h
  | ex c ns l m => exact x c ns l m h
  | stuck => exact h
/-- a spec without refusals, used -/
theorem WO.use {o : Out α} {Q' : α → List M → Prop} {k' : Kt Q' xNo} (h : WO o Q' xNo k') (q : ∀ x m, Q' x m → Q x m) : WO o Q X ⟨⟩ := h.mono q fun _ _ _ _ z => z.elim
theorem WO.ex_ {o : Out α} {k : Kt Q xNo} (h : WO o Q xNo k) : ∃ x m, o = .ok x m ∧ Q x m := by
  cases o with
  | ok a m => exact ⟨a, m, rfl, h⟩
  | ex c ns l m => exact h.elim
  | stuck => exact h.elim
theorem w_ok {x : α} : WO (.ok x μ) Q X k = Q x μ := id rfl
theorem w_ex {c : Str} {ns : List Str} {l : List D} : WO (.ex c ns l μ : Out α) Q X k = X c ns l μ := id rfl
theorem w_bind {Q : β → List M → Prop} {k : Kt Q X} {o : Out α} {f : α → List M → Out β} : WO (o.bind f) Q X k = WO o (fun x m => WO (f x m) Q X ⟨⟩) X ⟨⟩ := by cases o <;> rfl
theorem w_bindS {o : Out α} {f : α → List M → SO} : WS (o.bindS env f) N R B C Z ks = WO o (fun x m => WS (f x m) N R B C Z ⟨⟩) (fun c ns l m => Z c ns l env m) ⟨⟩ := by cases o <;> rfl
theorem s_bind {o : SO} {f : En → List M → SO} : WS (o.bind f) N R B C Z ks = WS o (fun e m => WS (f e m) N R B C Z ⟨⟩) R B C Z ⟨⟩ := by cases o <;> rfl
theorem o_some {Q : α → Prop} {k : Ko Q} {x : α} : OP (some x) Q k = Q x := id rfl
/-! expressions -/
theorem w_dC {Q : D → List M → Prop} {k : Kt Q X} {d : D} : WO (dC d env μ) Q X k = Q d μ := id rfl
theorem w_var {Q : D → List M → Prop} {k : Kt Q X} {i : Nat} : WO (dVar i env μ) Q X k = OP (env[i]?.join) (fun d => Q d μ) ⟨⟩ := by
  unfold dVar
  cases env[i]? with
  | none => rfl
  | some o => cases o <;> rfl
theorem w_op {Q : D → List M → Prop} {k : Kt Q X} {g : List M → D → D → Option D} {a b : DE} : WO (dOp g a b env μ) Q X k = WO (a env μ) (fun x m => WO (b env m) (fun y m2 => OP (g m2 x y) (fun d => Q d m2) ⟨⟩) X ⟨⟩) X ⟨⟩ := by
  unfold dOp
  cases a env μ with
  | ok x m =>
    show WO ((b env m).bind _) Q X _ = WO (b env m) _ X ⟨⟩
    cases b env m with
    | ok y m2 =>
      show WO (match g m2 x y with | some d => .ok d m2 | none => .stuck) Q X _ = OP (g m2 x y) _ ⟨⟩
      cases g m2 x y <;> rfl
    | ex _ _ _ _ => rfl
    | stuck => rfl
  | ex _ _ _ _ => rfl
  | stuck => rfl
theorem a_nil {Q : List D → List M → Prop} {k : Kt Q X} : WO (aNil env μ) Q X k = Q [] μ := id rfl
theorem a_cons {Q : List D → List M → Prop} {k : Kt Q X} {a : DE} {as : DA} : WO (aCons a as env μ) Q X k = WO (a env μ) (fun x m => WO (as env m) (fun l m2 => Q (x :: l) m2) X ⟨⟩) X ⟨⟩ := by
  unfold aCons
  cases a env μ with
  | ok x m =>
    show WO ((as env m).bind _) Q X _ = WO (as env m) _ X ⟨⟩
    cases as env m <;> rfl
  | ex _ _ _ _ => rfl
  | stuck => rfl
theorem w_tup {Q : D → List M → Prop} {k : Kt Q X} {as : DA} : WO (dTup as env μ) Q X k = WO (as env μ) (fun l m => l.length ≤ 100000 ∧ Q (.tup l) m) X ⟨⟩ := by
  unfold dTup
  cases as env μ with
  | ok l m =>
    show WO (if l.length ≤ 100000 then _ else _) Q X _ = (l.length ≤ 100000 ∧ Q (.tup l) m)
    by_cases h : l.length ≤ 100000
    · rw [if_pos h]; exact propext ⟨fun q => ⟨h, q⟩, fun q => q.2⟩
    · rw [if_neg h]; exact propext ⟨fun q => q.elim, fun q => absurd q.1 h⟩
  | ex _ _ _ _ => rfl
  | stuck => rfl
theorem w_lst {Q : D → List M → Prop} {k : Kt Q X} {as : DA} : WO (dLst as env μ) Q X k = WO (as env μ) (fun l m => l.length ≤ 100000 ∧ Q (.lst l) m) X ⟨⟩ := by
  unfold dLst
  cases as env μ with
  | ok l m =>
    show WO (if l.length ≤ 100000 then _ else _) Q X _ = (l.length ≤ 100000 ∧ Q (.lst l) m)
    by_cases h : l.length ≤ 100000
    · rw [if_pos h]; exact propext ⟨fun q => ⟨h, q⟩, fun q => q.2⟩
    · rw [if_neg h]; exact propext ⟨fun q => q.elim, fun q => absurd q.1 h⟩
  | ex _ _ _ _ => rfl
  | stuck => rfl
theorem w_blt {Q : D → List M → Prop} {k : Kt Q X} {g : List M → List D → Option D} {as : DA} : WO (dBlt g as env μ) Q X k = WO (as env μ) (fun l m => OP (g m l) (fun d => Q d m) ⟨⟩) X ⟨⟩ := by
  unfold dBlt
  cases as env μ with
  | ok l m =>
    show WO (match g m l with | some d => .ok d m | none => .stuck) Q X _ = OP (g m l) _ ⟨⟩
    cases g m l <;> rfl
  | ex _ _ _ _ => rfl
  | stuck => rfl
theorem w_call {Q : D → List M → Prop} {k : Kt Q X} {np : Nat} {G : GF} {dd : List D} {as : DA} : WO (dCall np G dd as env μ) Q X k = WO (as env μ) (fun l m => (l ++ dd).length = np ∧ WO (G (l ++ dd) m) Q X ⟨⟩) X ⟨⟩ := by
  unfold dCall
  cases as env μ with
  | ok l m =>
    show WO (if (l ++ dd).length = np then _ else _) Q X _ = ((l ++ dd).length = np ∧ _)
    by_cases h : (l ++ dd).length = np
    · rw [if_pos h]; exact propext ⟨fun q => ⟨h, q⟩, fun q => q.2⟩
    · rw [if_neg h]; exact propext ⟨fun q => q.elim, fun q => absurd q.1 h⟩
  | ex _ _ _ _ => rfl
  | stuck => rfl
theorem w_callN {Q : List D → List M → Prop} {k : Kt Q X} {np : Nat} {G : GN} {dd : List D} {as : DA} : WO (dCallN np G dd as env μ) Q X k = WO (as env μ) (fun l m => (l ++ dd).length = np ∧ WO (G (l ++ dd) m) Q X ⟨⟩) X ⟨⟩ := by
  unfold dCallN
  cases as env μ with
  | ok l m =>
    show WO (if (l ++ dd).length = np then _ else _) Q X _ = ((l ++ dd).length = np ∧ _)
    by_cases h : (l ++ dd).length = np
    · rw [if_pos h]; exact propext ⟨fun q => ⟨h, q⟩, fun q => q.2⟩
    · rw [if_neg h]; exact propext ⟨fun q => q.elim, fun q => absurd q.1 h⟩
  | ex _ _ _ _ => rfl
  | stuck => rfl
theorem w_or {Q : D → List M → Prop} {k : Kt Q X} {a b : DE} : WO (dOr a b env μ) Q X k = WO (a env μ) (fun x m => OP (truth m x) (fun t => if t = true then Q x m else WO (b env m) Q X ⟨⟩) ⟨⟩) X ⟨⟩ := by
  unfold dOr
  cases a env μ with
  | ok x m =>
    show WO (match truth m x with | some true => _ | some false => _ | none => _) Q X _ = OP (truth m x) _ ⟨⟩
    cases truth m x with
    | none => rfl
    | some t => cases t <;> rfl
  | ex _ _ _ _ => rfl
  | stuck => rfl
theorem w_and {Q : D → List M → Prop} {k : Kt Q X} {a b : DE} : WO (dAnd a b env μ) Q X k = WO (a env μ) (fun x m => OP (truth m x) (fun t => if t = true then WO (b env m) Q X ⟨⟩ else Q x m) ⟨⟩) X ⟨⟩ := by
  unfold dAnd
  cases a env μ with
  | ok x m =>
    show WO (match truth m x with | some true => _ | some false => _ | none => _) Q X _ = OP (truth m x) _ ⟨⟩
    cases truth m x with
    | none => rfl
    | some t => cases t <;> rfl
  | ex _ _ _ _ => rfl
  | stuck => rfl
theorem w_not {Q : D → List M → Prop} {k : Kt Q X} {a : DE} : WO (dNot a env μ) Q X k = WO (a env μ) (fun x m => OP (truth m x) (fun t => Q (.bl (!t)) m) ⟨⟩) X ⟨⟩ := by
  unfold dNot
  cases a env μ with
  | ok x m =>
    show WO (match truth m x with | some b => .ok (.bl (!b)) m | none => .stuck) Q X _ = OP (truth m x) _ ⟨⟩
    cases truth m x <;> rfl
  | ex _ _ _ _ => rfl
  | stuck => rfl
theorem w_neg {Q : D → List M → Prop} {k : Kt Q X} {a : DE} : WO (dNeg a env μ) Q X k = WO (a env μ) (fun x m => OP (opNeg m x) (fun d => Q d m) ⟨⟩) X ⟨⟩ := by
  unfold dNeg
  cases a env μ with
  | ok x m => cases x <;> rfl
  | ex _ _ _ _ => rfl
  | stuck => rfl
theorem w_if {Q : D → List M → Prop} {k : Kt Q X} {t : DT} {a b : DE} : WO (dIfE t a b env μ) Q X k = WO (t env μ) (fun c m => if c = true then WO (a env m) Q X ⟨⟩ else WO (b env m) Q X ⟨⟩) X ⟨⟩ := by
  unfold dIfE
  cases t env μ with
  | ok c m => cases c <;> rfl
  | ex _ _ _ _ => rfl
  | stuck => rfl
theorem w_chain {Q : D → List M → Prop} {k : Kt Q X} {g g' : List M → D → D → Option D} {a b c : DE} : WO (dChain g g' a b c env μ) Q X k = WO (a env μ) (fun x m => WO (b env m) (fun y m2 => OP (g m2 x y) (fun d => d = .bl true ∧ WO (c env m2) (fun z m3 => OP (g' m3 y z) (fun d => Q d m3) ⟨⟩) X ⟨⟩ ∨ d = .bl false ∧ Q (.bl false) m2) ⟨⟩) X ⟨⟩) X ⟨⟩ := by
  unfold dChain
  cases a env μ with
  | ok x m =>
    show WO ((b env m).bind _) Q X _ = WO (b env m) _ X ⟨⟩
    cases b env m with
    | ok y m2 =>
      show WO (match g m2 x y with | some (.bl k) => _ | _ => .stuck) Q X _ = OP (g m2 x y) _ ⟨⟩
      cases g m2 x y with
      | none => rfl
      | some d =>
        cases d with
        | bl t =>
          cases t with
          | false => exact propext ⟨fun q => .inr ⟨rfl, q⟩, fun q => q.elim (fun z => nomatch z.1) fun z => z.2⟩
          | true =>
            have e : WO ((c env m2).bind fun z μ3 => match g' μ3 y z with | some d => .ok d μ3 | none => .stuck) Q X ⟨⟩ = WO (c env m2) (fun z m3 => OP (g' m3 y z) (fun d => Q d m3) ⟨⟩) X ⟨⟩ := by
              cases c env m2 with
              | ok z m3 =>
                show WO (match g' m3 y z with | some d => .ok d m3 | none => .stuck) Q X _ = OP (g' m3 y z) _ ⟨⟩
                cases g' m3 y z <;> rfl
              | ex _ _ _ _ => rfl
              | stuck => rfl
            exact propext ⟨fun q => .inl ⟨rfl, e ▸ q⟩, fun q => q.elim (fun z => e.symm ▸ z.2) fun z => nomatch z.1⟩
        | _ => exact propext ⟨fun q => q.elim, fun q => q.elim (fun z => nomatch z.1) fun z => nomatch z.1⟩
    | ex _ _ _ _ => rfl
    | stuck => rfl
  | ex _ _ _ _ => rfl
  | stuck => rfl
theorem t_tru {Q : Bool → List M → Prop} {k : Kt Q X} {a : DE} : WO (dTru a env μ) Q X k = WO (a env μ) (fun x m => OP (truth m x) (fun t => Q t m) ⟨⟩) X ⟨⟩ := by
  unfold dTru
  cases a env μ with
  | ok x m =>
    show WO (match truth m x with | some b => .ok b m | none => .stuck) Q X _ = OP (truth m x) _ ⟨⟩
    cases truth m x <;> rfl
  | ex _ _ _ _ => rfl
  | stuck => rfl
def isB : D → Option Bool
  | .bl b => some b
  | _ => none
theorem t_tst {Q : Bool → List M → Prop} {k : Kt Q X} {a : DE} : WO (dTst a env μ) Q X k = WO (a env μ) (fun x m => OP (isB x) (fun t => Q t m) ⟨⟩) X ⟨⟩ := by
  unfold dTst
  cases a env μ with
  | ok x m => cases x <;> rfl
  | ex _ _ _ _ => rfl
  | stuck => rfl
theorem t_and {Q : Bool → List M → Prop} {k : Kt Q X} {a b : DT} : WO (tAnd2 a b env μ) Q X k = WO (a env μ) (fun t m => if t = true then WO (b env m) Q X ⟨⟩ else Q false m) X ⟨⟩ := by
  unfold tAnd2
  cases a env μ with
  | ok t m => cases t <;> rfl
  | ex _ _ _ _ => rfl
  | stuck => rfl
theorem t_or {Q : Bool → List M → Prop} {k : Kt Q X} {a b : DT} : WO (tOr2 a b env μ) Q X k = WO (a env μ) (fun t m => if t = true then Q true m else WO (b env m) Q X ⟨⟩) X ⟨⟩ := by
  unfold tOr2
  cases a env μ with
  | ok t m => cases t <;> rfl
  | ex _ _ _ _ => rfl
  | stuck => rfl
theorem t_not {Q : Bool → List M → Prop} {k : Kt Q X} {a : DT} : WO (tNot2 a env μ) Q X k = WO (a env μ) (fun t m => Q (!t) m) X ⟨⟩ := by
  unfold tNot2
  cases a env μ <;> rfl
theorem p_no {Q : Option Int → List M → Prop} {k : Kt Q X} : WO (dNoP env μ) Q X k = Q none μ := id rfl
def isI : D → Option Int
  | .int b => some b
  | _ => none
theorem p_some {Q : Option Int → List M → Prop} {k : Kt Q X} {a : DE} : WO (dP a env μ) Q X k = WO (a env μ) (fun x m => OP (isI x) (fun i => Q (some i) m) ⟨⟩) X ⟨⟩ := by
  unfold dP
  cases a env μ with
  | ok x m => cases x <;> rfl
  | ex _ _ _ _ => rfl
  | stuck => rfl
theorem w_slc {Q : D → List M → Prop} {k : Kt Q X} {a : DE} {l h : En → List M → Out (Option Int)} : WO (dSlc a l h env μ) Q X k = WO (a env μ) (fun x m => WO (l env m) (fun lo m2 => WO (h env m2) (fun hi m3 => OP (slc m3 lo hi x) (fun d => Q d m3) ⟨⟩) X ⟨⟩) X ⟨⟩) X ⟨⟩ := by
  unfold dSlc
  cases a env μ with
  | ok x m =>
    show WO ((l env m).bind _) Q X _ = WO (l env m) _ X ⟨⟩
    cases l env m with
    | ok lo m2 =>
      show WO ((h env m2).bind _) Q X _ = WO (h env m2) _ X ⟨⟩
      cases h env m2 with
      | ok hi m3 =>
        show WO (match slc m3 lo hi x with | some d => .ok d m3 | none => .stuck) Q X _ = OP (slc m3 lo hi x) _ ⟨⟩
        cases slc m3 lo hi x <;> rfl
      | ex _ _ _ _ => rfl
      | stuck => rfl
    | ex _ _ _ _ => rfl
    | stuck => rfl
  | ex _ _ _ _ => rfl
  | stuck => rfl
def isS : D → Option Str
  | .str b => some b
  | _ => none
theorem w_m1 {Q : D → List M → Prop} {k : Kt Q X} {g : List M → Str → List D → Option D} {a b : DE} : WO (dM1 g a b env μ) Q X k = WO (a env μ) (fun x m => OP (isS x) (fun z => WO (b env m) (fun y m2 => OP (g m2 z [y]) (fun d => Q d m2) ⟨⟩) X ⟨⟩) ⟨⟩) X ⟨⟩ := by
  unfold dM1
  cases a env μ with
  | ok x m =>
    cases x with
    | str z =>
      show WO ((b env m).bind _) Q X _ = WO (b env m) _ X ⟨⟩
      cases b env m with
      | ok y m2 =>
        show WO (match g m2 z [y] with | some d => .ok d m2 | none => .stuck) Q X _ = OP (g m2 z [y]) _ ⟨⟩
        cases g m2 z [y] <;> rfl
      | ex _ _ _ _ => rfl
      | stuck => rfl
    | _ => rfl
  | ex _ _ _ _ => rfl
  | stuck => rfl
theorem w_fld {Q : D → List M → Prop} {k : Kt Q X} {f : Str} {a : DE} : WO (dFld f a env μ) Q X k = WO (a env μ) (fun x m => OP ((clsAt m x).bind fun _ => fldAt m f x) (fun d => Q d m) ⟨⟩) X ⟨⟩ := by
  unfold dFld
  cases a env μ with
  | ok x m =>
    show WO (match clsAt m x with | some _ => (match fldAt m f x with | some d => .ok d m | none => .stuck) | none => .stuck) Q X _ = OP ((clsAt m x).bind fun _ => fldAt m f x) _ ⟨⟩
    cases clsAt m x with
    | none => rfl
    | some _ => cases e : fldAt m f x <;> simp only [Option.bind_some, e] <;> rfl
  | ex _ _ _ _ => rfl
  | stuck => rfl
/-! statements -/
theorem s_nil : WS (sNil env μ) N R B C Z ks = N env μ := id rfl
theorem s_brk : WS (sBrk env μ) N R B C Z ks = B env μ := id rfl
theorem s_cnt : WS (sCnt env μ) N R B C Z ks = C env μ := id rfl
theorem s_retN : WS (sRetN env μ) N R B C Z ks = R .non μ := id rfl
theorem s_raise {x : Str} : WS (sRaise x env μ) N R B C Z ks = Z x [] [] env μ := id rfl
theorem s_seq {a b : DS} : WS (sSeq a b env μ) N R B C Z ks = WS (a env μ) (fun e m => WS (b e m) N R B C Z ⟨⟩) R B C Z ⟨⟩ := s_bind
theorem s_ret {a : DE} : WS (sRet a env μ) N R B C Z ks = WO (a env μ) (fun x m => R x m) (fun c ns l m => Z c ns l env m) ⟨⟩ := w_bindS
theorem s_exp {a : DE} : WS (sExp a env μ) N R B C Z ks = WO (a env μ) (fun x m => N env m) (fun c ns l m => Z c ns l env m) ⟨⟩ := w_bindS
theorem s_if {t : DT} {a b : DS} : WS (sIf t a b env μ) N R B C Z ks = WO (t env μ) (fun c m => if c = true then WS (a env m) N R B C Z ⟨⟩ else WS (b env m) N R B C Z ⟨⟩) (fun c ns l m => Z c ns l env m) ⟨⟩ := by
  unfold sIf
  cases t env μ with
  | ok c m => cases c <;> rfl
  | ex _ _ _ _ => rfl
  | stuck => rfl
theorem s_set {d : DE} {i : Nat} : WS (sAsg d (gNm i) env μ) N R B C Z ks = WO (d env μ) (fun x m => N (env.set i (some x)) m) (fun c ns l m => Z c ns l env m) ⟨⟩ := by
  unfold sAsg
  cases d env μ <;> rfl
theorem s_asg {d : DE} {g : DG} : WS (sAsg d g env μ) N R B C Z ks = WO (d env μ) (fun x m => OP (g x env m) (fun e => N e m) ⟨⟩) (fun c ns l m => Z c ns l env m) ⟨⟩ := by
  unfold sAsg
  cases d env μ with
  | ok x m =>
    show WS (match g x env m with | some e => .nx e m | none => .stuck) N R B C Z _ = OP (g x env m) _ ⟨⟩
    cases g x env m <;> rfl
  | ex _ _ _ _ => rfl
  | stuck => rfl
theorem s_new {i : Nat} {as : DA} : WS (sNew i as env μ) N R B C Z ks = WO (as env μ) (fun l m => N (env.set i (some (.cel m.length))) (m ++ [.lst l])) (fun c ns l m => Z c ns l env m) ⟨⟩ := w_bindS
theorem s_cel {i : Nat} {as : DA} : WS (sCel i as env μ) N R B C Z ks = WO (as env μ) (fun l m => l.length ≤ 100000 ∧ N (env.set i (some (.cel m.length))) (m ++ [.lst l])) (fun c ns l m => Z c ns l env m) ⟨⟩ := by
  unfold sCel
  cases as env μ with
  | ok l m =>
    show WS (if l.length ≤ 100000 then _ else _) N R B C Z _ = (l.length ≤ 100000 ∧ _)
    by_cases h : l.length ≤ 100000
    · rw [if_pos h]; exact propext ⟨fun q => ⟨h, q⟩, fun q => q.2⟩
    · rw [if_neg h]; exact propext ⟨fun q => q.elim, fun q => absurd q.1 h⟩
  | ex _ _ _ _ => rfl
  | stuck => rfl
theorem s_retC {as : DA} : WS (sRetC as env μ) N R B C Z ks = WO (as env μ) (fun l m => l.length ≤ 100000 ∧ R (.cel m.length) (m ++ [.lst l])) (fun c ns l m => Z c ns l env m) ⟨⟩ := by
  unfold sRetC
  cases as env μ with
  | ok l m =>
    show WS (if l.length ≤ 100000 then _ else _) N R B C Z _ = (l.length ≤ 100000 ∧ _)
    by_cases h : l.length ≤ 100000
    · rw [if_pos h]; exact propext ⟨fun q => ⟨h, q⟩, fun q => q.2⟩
    · rw [if_neg h]; exact propext ⟨fun q => q.elim, fun q => absurd q.1 h⟩
  | ex _ _ _ _ => rfl
  | stuck => rfl
def pairOf : List D → Option (D × D)
  | [x, y] => some (x, y)
  | _ => none
theorem s_par {i j : Nat} {as : DA} : WS (sPar i j as env μ) N R B C Z ks = WO (as env μ) (fun l m => OP (pairOf l) (fun p => N ((env.set i (some p.1)).set j (some p.2)) m) ⟨⟩) (fun c ns l m => Z c ns l env m) ⟨⟩ := by
  unfold sPar
  cases as env μ with
  | ok l m =>
    match l with
    | [x, y] => rfl
    | [] => rfl
    | [_] => rfl
    | _ :: _ :: _ :: _ => rfl
  | ex _ _ _ _ => rfl
  | stuck => rfl
end
end DL
namespace DL
open PySem PySem.Spec PyProof.Rows L2
def putIx (m : List M) (x n y : D) : Option (List M) := match x, n with
  | .cel i, .int k => match m[i]? with
    | some (.lst l) => match ixN l.length k with
      | some j => some (m.set i (.lst (l.set j y)))
      | none => none
    | _ => none
  | _, _ => none
theorem s_setIx {N : En → List M → Prop} {R : D → List M → Prop} {B C : En → List M → Prop} {Z : Str → List Str → List D → En → List M → Prop} {ks : Ks N R B C Z} {env : En} {μ : List M} {e a i : DE} :
    WS (sSetIx e a i env μ) N R B C Z ks = WO (e env μ) (fun y m => WO (a env m) (fun x m2 => WO (i env m2) (fun n m3 => OP (putIx m3 x n y) (fun m4 => N env m4) ⟨⟩) (fun c ns l m => Z c ns l env m) ⟨⟩) (fun c ns l m => Z c ns l env m) ⟨⟩) (fun c ns l m => Z c ns l env m) ⟨⟩ := by
  unfold sSetIx
  rw [w_bindS]
  cases e env μ with
  | ok y m =>
    show WS ((a env m).bindS env _) N R B C Z ⟨⟩ = WO (a env m) _ _ ⟨⟩
    rw [w_bindS]
    cases a env m with
    | ok x m2 =>
      show WS ((i env m2).bindS env _) N R B C Z ⟨⟩ = WO (i env m2) _ _ ⟨⟩
      rw [w_bindS]
      cases i env m2 with
      | ok n m3 =>
        cases x <;> first | rfl | skip
        cases n <;> first | rfl | skip
        rename_i c k
        show WS (match m3[c]? with | some (.lst l) => (match ixN l.length k with | some j => .nx env (m3.set c (.lst (l.set j y))) | none => .stuck) | _ => .stuck) N R B C Z ⟨⟩ = OP (match m3[c]? with | some (.lst l) => (match ixN l.length k with | some j => some (m3.set c (.lst (l.set j y))) | none => none) | _ => none) _ ⟨⟩
        cases m3[c]? with
        | none => rfl
        | some o =>
          cases o <;> first | rfl | skip
          rename_i l
          dsimp only
          cases ixN l.length k <;> rfl
      | ex _ _ _ _ => rfl
      | stuck => rfl
    | ex _ _ _ _ => rfl
    | stuck => rfl
  | ex _ _ _ _ => rfl
  | stuck => rfl
end DL
namespace DL
open PySem PySem.Spec PyProof.Rows L2
section
variable {m : List M} {i j : Int} {x y : Str} {b c : Bool} {l l' : List D} {d : D}
theorem e_add : opAdd m (.int i) (.int j) = some (.int (i + j)) := id rfl
theorem e_addS : opAdd m (.str x) (.str y) = if x.length + y.length ≤ 100000 then some (.str (x ++ y)) else none := id rfl
theorem e_addL {d e : D} (h : lstOf m d = some l) (h' : lstOf m e = some l') : opAdd m d e = if l.length + l'.length ≤ 100000 then some (.lst (l ++ l')) else none := by
  unfold opAdd
  split
  · cases h
  · cases h
  · unfold addSeq
    rw [h, h']
theorem e_sub : opSub m (.int i) (.int j) = some (.int (i - j)) := id rfl
theorem e_mulR (h : -9223372036854775808 < j) (h' : j < 9223372036854775808) : opMul m (.int i) (.int j) = some (.int (i * j)) := by
  have h : j.natAbs < 9223372036854775808 := by omega
  unfold opMul mulSmall
  simp [h]
theorem e_mulL (h : -9223372036854775808 < i) (h' : i < 9223372036854775808) : opMul m (.int i) (.int j) = some (.int (i * j)) := by
  have h : i.natAbs < 9223372036854775808 := by omega
  unfold opMul mulSmall
  simp [h]
theorem e_mod : opMod m (.int i) (.int j) = if 0 < j then some (.int (i % j)) else none := id rfl
theorem e_div : opDiv m (.int i) (.int j) = if 0 < j ∧ j.natAbs.log2 < 9000 then some (.int (i / j)) else none := id rfl
theorem e_divS (h : 0 < j) (h' : j < 9223372036854775808) : opDiv m (.int i) (.int j) = some (.int (i / j)) := by
  have : j.natAbs.log2 < 63 := (Nat.log2_lt (by omega)).mpr (by omega)
  rw [e_div, if_pos ⟨h, by omega⟩]
theorem e_modS (h : 0 < j) : opMod m (.int i) (.int j) = some (.int (i % j)) := by rw [e_mod, if_pos h]
theorem e_pow (h : 0 ≤ j) (h1 : j ≤ 1000000) (h2 : -9223372036854775808 < i) (h3 : i < 9223372036854775808) : opPow m (.int i) (.int j) = some (.int (i ^ j.toNat)) := if_pos ⟨h, h1, by omega⟩
theorem e_lt : opLt m (.int i) (.int j) = some (.bl (decide (i < j))) := id rfl
theorem e_le : opLe m (.int i) (.int j) = some (.bl (decide (i ≤ j))) := id rfl
theorem e_gt : opGt m (.int i) (.int j) = some (.bl (decide (j < i))) := id rfl
theorem e_ge : opGe m (.int i) (.int j) = some (.bl (decide (j ≤ i))) := id rfl
theorem e_is : opIs m d .non = some (.bl (isNon d)) := id rfl
theorem e_isN : opIsN m d .non = some (.bl (!isNon d)) := id rfl
theorem e_eqI : opEq m (.int i) (.int j) = some (.bl (decide (i = j))) := by
  simp [opEq, eqOk, now, plain, dep, eqB]
  rfl
theorem e_neI : opNe m (.int i) (.int j) = some (.bl (!decide (i = j))) := by
  simp [opNe, eqOk, now, plain, dep, eqB]
  rfl
theorem beqS : (x == y) = decide (x = y) := by
  by_cases h : x = y
  · subst h; simp
  · rw [decide_eq_false h]
    exact beq_eq_false_iff_ne.mpr h
theorem e_eqS : opEq m (.str x) (.str y) = some (.bl (decide (x = y))) := by
  simp [opEq, eqOk, now, plain, dep, eqB, beqS]
theorem e_neS : opNe m (.str x) (.str y) = some (.bl (!decide (x = y))) := by
  simp [opNe, eqOk, now, plain, dep, eqB, beqS]
theorem h_bl : truth m (.bl b) = some b := id rfl
theorem h_int : truth m (.int i) = some (decide (i ≠ 0)) := id rfl
theorem h_non : truth m .non = some false := id rfl
theorem b_bl : isB (.bl b) = some b := id rfl
theorem i_int : isI (.int i) = some i := id rfl
theorem s_str : isS (.str x) = some x := id rfl
theorem l_lst : lstOf m (.lst l) = some l := id rfl
theorem q_lst : seqOf m (.lst l) = some l := id rfl
theorem q_tup : seqOf m (.tup l) = some l := id rfl
def cellL : Option M → Option (List D)
  | some (.lst l) => some l
  | _ => none
theorem c_lst : cellL (some (.lst l)) = some l := id rfl
theorem c_seq {i : Nat} : seqOf m (.cel i) = cellL m[i]? := id rfl
theorem c_lis {i : Nat} : lstOf m (.cel i) = cellL m[i]? := id rfl
theorem x_cel {c : Nat} : opIx m (.cel c) (.int i) = (cellL m[c]?).bind fun l => atI l i := by
  show (match seqOf m (.cel c) with | some l => atI l i | none => none) = _
  rw [c_seq]
  cases cellL m[c]? <;> rfl
theorem x_lst : opIx m (.lst l) (.int i) = atI l i := id rfl
theorem x_tup : opIx m (.tup l) (.int i) = atI l i := id rfl
theorem at_nn {α : Type} {l : List α} (h : 0 ≤ i) : atI l i = l[i.toNat]? := by
  unfold atI ixN
  rw [if_pos h]
  by_cases h2 : i < l.length
  · rw [if_pos h2]; rfl
  · rw [if_neg h2]
    exact (List.getElem?_eq_none (by omega)).symm
theorem ix_in {n : Nat} (h : 0 ≤ i) (h' : i.toNat < n) : ixN n i = some i.toNat := by
  unfold ixN
  rw [if_pos h, if_pos (by omega)]
theorem p_cel {c : Nat} {k : Int} {y : D} : putIx m (.cel c) (.int k) y = (cellL m[c]?).bind fun l => (ixN l.length k).bind fun j => some (m.set c (.lst (l.set j y))) := by
  unfold putIx
  dsimp only
  cases m[c]? with
  | none => rfl
  | some o =>
    cases o <;> first | rfl | skip
    rename_i l
    show (match ixN l.length k with | some j => some (m.set c (.lst (l.set j y))) | none => none) = _
    rw [c_lst, Option.bind_some]
    cases ixN l.length k <;> rfl
theorem e_mulIf {p : Prop} [Decidable p] : opMul m (.int i) (.int (if p then 1 else 0)) = some (.int (i * if p then 1 else 0)) := by
  apply e_mulR <;> split <;> decide
theorem e_mulM {n : Int} (h : 0 < n) (h' : n < 9223372036854775808) : opMul m (.int (i % n)) (.int j) = some (.int (i % n * j)) := by
  have h1 := Int.emod_nonneg i (b := n) (by omega)
  have h2 := Int.emod_lt_of_pos i h
  exact e_mulL (by omega) (by omega)
theorem t_len {d : D} (h : seqOf m d = some l) : bLen m [d] = some (.int l.length) := by
  cases d with
  | str z => cases h
  | _ => unfold bLen; simp only [h]
theorem t_intB : bInt m [.bl b] = some (.int (if b = true then 1 else 0)) := id rfl
/-! what a def hands back -/
def FR (n : Nat) (m : List M) (d : D) (Q : D → List M → Prop) : Prop := clean 0 d = true ∧ Cln m ∧ Q d (m.take n)
theorem Cln.set {i : Nat} {x : M} (h : Cln m) (hx : cleanM 0 x = true) : Cln (m.set i x) := fun y hy => by
  rcases List.mem_or_eq_of_mem_set hy with hy | rfl
  · exact h y hy
  · exact hx
theorem Cln.snoc {x : M} (h : Cln m) (hx : cleanM 0 x = true) : Cln (m ++ [x]) := fun y hy => by
  rcases List.mem_append.mp hy with hy | hy
  · exact h y hy
  · rw [List.mem_singleton.mp hy]; exact hx
theorem wo_fn {nN np : Nat} {body : DS} {ds : List D} {Q : D → List M → Prop} {X : XP} (hn : ds.length = np)
    (h : WS (body (start nN ds) m) (fun _ m' => FR m.length m' .non Q) (fun d m' => FR m.length m' d Q) (fun _ _ => False) (fun _ _ => False) (fun c ns l _ m' => cleans 0 l = true ∧ Cln m' ∧ X c ns l (m'.take m.length)) ⟨⟩) :
    WO (fnG nN np body ds m) Q X ⟨⟩ := by
  unfold fnG
  rw [if_pos hn]
  cases e : body (start nN ds) m with
  | nx e' m' =>
    rw [e] at h
    obtain ⟨h1, h2, h3⟩ := h
    rw [fin_nx h2.all]
    exact h3
  | rt d m' =>
    rw [e] at h
    obtain ⟨h1, h2, h3⟩ := h
    rw [fin_rt (clean_up d h1) h2.all]
    exact h3
  | ex c ns l e' m' =>
    rw [e] at h
    obtain ⟨h1, h2, h3⟩ := h
    rw [fin_ex (cleans_up l h1) h2.all]
    exact h3
  | bk _ _ => rw [e] at h; exact h.elim
  | ct _ _ => rw [e] at h; exact h.elim
  | stuck => rw [e] at h; exact h.elim
/-- a def that hands back a new list -/
theorem wo_fnN {nN np : Nat} {body : DS} {ds : List D} {Q : List D → List M → Prop} {X : XP} (hn : ds.length = np)
    (h : WS (body (start nN ds) m) (fun _ _ => False) (fun d m' => ∃ i l, d = .cel i ∧ m.length ≤ i ∧ m'[i]? = some (.lst l) ∧ cleans 0 l = true ∧ Cln m' ∧ Q l (m'.take m.length)) (fun _ _ => False) (fun _ _ => False) (fun c ns l _ m' => cleans 0 l = true ∧ Cln m' ∧ X c ns l (m'.take m.length)) ⟨⟩) :
    WO (fnN nN np body ds m) Q X ⟨⟩ := by
  unfold fnN
  rw [if_pos hn]
  cases e : body (start nN ds) m with
  | nx e' m' => rw [e] at h; exact h.elim
  | rt d m' =>
    rw [e] at h
    obtain ⟨i, l, rfl, h1, h2, h3, h4, h5⟩ := h
    dsimp only [finN]
    rw [if_pos ⟨h1, h4.all⟩, h2]
    dsimp only
    rw [if_pos (cleans_up l h3)]
    exact h5
  | ex c ns l e' m' =>
    rw [e] at h
    obtain ⟨h1, h2, h3⟩ := h
    dsimp only [finN, finL]
    rw [subs_clean l (cleans_up l h1), subMs_clean _ h2.all]
    exact h3
  | bk _ _ => rw [e] at h; exact h.elim
  | ct _ _ => rw [e] at h; exact h.elim
  | stuck => rw [e] at h; exact h.elim
end
end DL
namespace DL
open PySem PySem.Spec PyProof.Rows L2
section
variable {α β : Type} {X : XP} {N : En → List M → Prop} {R : D → List M → Prop} {B C : En → List M → Prop} {Z : Str → List Str → List D → En → List M → Prop} {ks : Ks N R B C Z} {env : En} {μ : List M}
theorem WS.mono {o : SO} {N' R' B' C' Z'} {k : Ks N R B C Z} (h : WS o N R B C Z k) (n : ∀ e m, N e m → N' e m) (r : ∀ d m, R d m → R' d m) (b : ∀ e m, B e m → B' e m) (c : ∀ e m, C e m → C' e m) (z : ∀ x ns l e m, Z x ns l e m → Z' x ns l e m) : WS o N' R' B' C' Z' ⟨⟩ := by
  cases o with
  | nx e m => exact n e m h
  | rt d m => exact r d m h
  | bk e m => exact b e m h
  | ct e m => exact c e m h
  | ex x ns l e m => exact z x ns l e m h
  | stuck => exact h
/-! while -/
theorem whGo_true {t : DT} {b : DS} {k : Nat} {e : En} {m m' : List M} (h : t e m = .ok true m') : whGo t b (k + 1) e m = match b e m' with
    | .nx e m => whGo t b k e m
    | .ct e m => whGo t b k e m
    | .bk e m => .nx e m
    | o => o := by
  rw [whGo, h]
  rfl
theorem s_while {t : DT} {b : DS} (I : Nat → En → List M → Prop) (step : ∀ n e m, I n e m → WO (t e m) (fun c m' => if c = true then WS (b e m') (fun e2 m2 => ∃ n', n' < n ∧ I n' e2 m2) R N (fun e2 m2 => ∃ n', n' < n ∧ I n' e2 m2) Z ⟨⟩ else N e m') (fun c ns l m' => Z c ns l e m') ⟨⟩) (n : Nat) (h : I n env μ) :
    WS (sWhile t b env μ) N R B C Z ⟨⟩ := by
  have go : ∀ n e m, I n e m → ∃ k, whGo t b k e m ≠ .stuck ∧ WS (whGo t b k e m) N R B C Z ⟨⟩ := by
    intro n
    induction n using Nat.strongRecOn with
    | ind n ih =>
      intro e m h
      have s := step n e m h
      cases e1 : t e m with
      | stuck => rw [e1] at s; exact s.elim
      | ex c ns l m' =>
        rw [e1] at s
        refine ⟨1, ?_, ?_⟩
        · rw [whGo, e1]; exact fun z => nomatch z
        · rw [whGo, e1]; exact s
      | ok c m' =>
        rw [e1] at s
        cases c with
        | false =>
          refine ⟨1, ?_, ?_⟩
          · rw [whGo, e1]; exact fun z => nomatch z
          · rw [whGo, e1]; exact s
        | true =>
          have s : WS (b e m') (fun e2 m2 => ∃ n', n' < n ∧ I n' e2 m2) R N (fun e2 m2 => ∃ n', n' < n ∧ I n' e2 m2) Z ⟨⟩ := s
          cases e2 : b e m' with
          | nx e3 m3 =>
            rw [e2] at s
            obtain ⟨n', hn, hI⟩ := s
            obtain ⟨k, k1, k2⟩ := ih n' hn e3 m3 hI
            have q : whGo t b (k + 1) e m = whGo t b k e3 m3 := by
              rw [whGo_true e1, e2]
            exact ⟨k + 1, by rw [q]; exact k1, by rw [q]; exact k2⟩
          | ct e3 m3 =>
            rw [e2] at s
            obtain ⟨n', hn, hI⟩ := s
            obtain ⟨k, k1, k2⟩ := ih n' hn e3 m3 hI
            have q : whGo t b (k + 1) e m = whGo t b k e3 m3 := by
              rw [whGo_true e1, e2]
            exact ⟨k + 1, by rw [q]; exact k1, by rw [q]; exact k2⟩
          | bk e3 m3 =>
            rw [e2] at s
            have q : whGo t b 1 e m = .nx e3 m3 := by
              rw [whGo_true e1, e2]
            exact ⟨1, by rw [q]; exact (fun z => (nomatch z)), by rw [q]; exact s⟩
          | rt d m3 =>
            rw [e2] at s
            have q : whGo t b 1 e m = .rt d m3 := by
              rw [whGo_true e1, e2]
            exact ⟨1, by rw [q]; exact (fun z => (nomatch z)), by rw [q]; exact s⟩
          | ex c ns l e3 m3 =>
            rw [e2] at s
            have q : whGo t b 1 e m = .ex c ns l e3 m3 := by
              rw [whGo_true e1, e2]
            exact ⟨1, by rw [q]; exact (fun z => (nomatch z)), by rw [q]; exact s⟩
          | stuck => rw [e2] at s; exact s.elim
  obtain ⟨k, k1, k2⟩ := go n env μ h
  rw [sWhile_eq rfl k1]
  exact k2
/-! for -/
theorem guard_of {g : List M → Prop} {m : List M} (h : g m) : guard g m = true := by
  unfold guard
  exact @decide_eq_true _ (Classical.propDecidable _) h
theorem s_forGo {g : List M → Prop} {tg : DG} {body : DS} (I : List D → En → List M → Prop) (h0 : ∀ e m, I [] e m → g m ∧ N e m)
    (h1 : ∀ x xs e m, I (x :: xs) e m → g m ∧ OP (tg x e m) (fun e1 => WS (body e1 m) (I xs) R N (I xs) Z ⟨⟩) ⟨⟩) : ∀ (l : List D) (e : En) (m : List M), I l e m → WS (forGo g tg body l e m) N R B C Z ⟨⟩
  | [], e, m, h => by
    obtain ⟨k1, k2⟩ := h0 e m h
    rw [forGo, guard_of k1]
    exact k2
  | x :: xs, e, m, h => by
    obtain ⟨k1, k2⟩ := h1 x xs e m h
    rw [forGo, guard_of k1, if_pos rfl]
    cases e1 : tg x e m with
    | none => rw [e1] at k2; exact k2.elim
    | some e2 =>
      rw [e1] at k2
      have k2 : WS (body e2 m) (I xs) R N (I xs) Z ⟨⟩ := k2
      dsimp only
      cases e3 : body e2 m with
      | nx e4 m4 => rw [e3] at k2; exact s_forGo I h0 h1 xs e4 m4 k2
      | ct e4 m4 => rw [e3] at k2; exact s_forGo I h0 h1 xs e4 m4 k2
      | bk e4 m4 => rw [e3] at k2; exact k2
      | rt d m4 => rw [e3] at k2; exact k2
      | ex c ns l e4 m4 => rw [e3] at k2; exact k2
      | stuck => rw [e3] at k2; exact k2.elim
theorem s_for {di : DI} {tg : DG} {body : DS} : WS (dFor di tg body env μ) N R B C Z ks = WO (di env μ) (fun lg m => WS (forGo lg.2 tg body lg.1 env m) N R B C Z ⟨⟩) (fun c ns l m => Z c ns l env m) ⟨⟩ := by
  unfold dFor
  exact w_bindS
def rngOne : List D → Option Int
  | [.int n] => if -(2 ^ 62) ≤ n ∧ n < 2 ^ 62 then some n else none
  | _ => none
theorem r_one {n : Int} (h : -4611686018427387904 ≤ n) (h' : n < 4611686018427387904) : rngOne [.int n] = some n := by
  dsimp only [rngOne]
  rw [if_pos (by constructor <;> omega)]
theorem i_rng {Q : List D × (List M → Prop) → List M → Prop} {k : Kt Q X} {a : DA} : WO (iRng a env μ) Q X k = WO (a env μ) (fun l m => OP (rngOne l) (fun n => Q (iota 0 n.toNat, fun _ => True) m) ⟨⟩) X ⟨⟩ := by
  unfold iRng
  cases a env μ with
  | ok l m =>
    match l with
    | [.int n] =>
      show WO (if -(2 ^ 62) ≤ n ∧ n < 2 ^ 62 then _ else _) Q X _ = OP (if -(2 ^ 62) ≤ n ∧ n < 2 ^ 62 then some n else none) _ ⟨⟩
      by_cases h : -(2 ^ 62) ≤ n ∧ n < 2 ^ 62
      · rw [if_pos h, if_pos h]; rfl
      · rw [if_neg h, if_neg h]; rfl
    | [] => rfl
    | _ :: _ :: _ => first | rfl | (rename_i x _ _; cases x <;> rfl)
    | [.non] => rfl
    | [.bl _] => rfl
    | [.str _] => rfl
    | [.ty _] => rfl
    | [.glo _] => rfl
    | [.tup _] => rfl
    | [.lst _] => rfl
    | [.dct _ _] => rfl
    | [.obj _ _ _] => rfl
    | [.cel _] => rfl
    | [.scr _] => rfl
    | [.exc _ _ _] => rfl
    | [.txt] => rfl
  | ex _ _ _ _ => rfl
  | stuck => rfl
/-! comprehensions -/
theorem w_lc {di : DI} {tg : DG} {tt : DT} {el : DE} {vs : List Nat} {Q : D → List M → Prop} {k : Kt Q X} : WO (dLcF di tg tt el vs env μ) Q X k = WO (di env μ) (fun lg m => WO (lcGo lg.2 tg tt el (wipeE env vs) lg.1 m []) (fun l m2 => Q (.lst l) m2) X ⟨⟩) X ⟨⟩ := by
  unfold dLcF dLc
  cases di env μ with
  | ok lg m =>
    show WO ((lcGo lg.2 tg tt el (wipeE env vs) lg.1 m []).bind _) Q X _ = _
    rw [w_bind]
    rfl
  | ex _ _ _ _ => rfl
  | stuck => rfl
end
end DL
namespace DL
open PySem PySem.Spec PyProof.Rows L2
section
variable {X : XP} {N : En → List M → Prop} {R : D → List M → Prop} {B C : En → List M → Prop} {Z : Str → List Str → List D → En → List M → Prop} {ks : Ks N R B C Z} {env : En} {μ : List M}
def celI : D → Option Nat
  | .cel i => some i
  | _ => none
theorem g_cel {i : Nat} : celI (.cel i) = some i := id rfl
theorem s_app {a e : DE} : WS (sApp a e env μ) N R B C Z ks = WO (a env μ) (fun x m => OP (celI x) (fun i => OP (cellL m[i]?) (fun _ => WO (e env m) (fun y m2 => OP (cellL m2[i]?) (fun l => l.length < 100000 ∧ N env (m2.set i (.lst (l ++ [y])))) ⟨⟩) (fun c ns l m => Z c ns l env m) ⟨⟩) ⟨⟩) ⟨⟩) (fun c ns l m => Z c ns l env m) ⟨⟩ := by
  unfold sApp
  rw [w_bindS]
  cases a env μ with
  | ok x m =>
    cases x <;> first | rfl | skip
    rename_i i
    show WS (match m[i]? with | some (.lst _) => _ | _ => .stuck) N R B C Z ⟨⟩ = OP (cellL m[i]?) _ ⟨⟩
    cases m[i]? with
    | none => rfl
    | some o =>
      cases o <;> first | rfl | skip
      show WS ((e env m).bindS env _) N R B C Z ⟨⟩ = WO (e env m) _ _ ⟨⟩
      rw [w_bindS]
      cases e env m with
      | ok y m2 =>
        show WS (match m2[i]? with | some (.lst l) => (if l.length < 100000 then .nx env (m2.set i (.lst (l ++ [y]))) else .stuck) | _ => .stuck) N R B C Z ⟨⟩ = OP (cellL m2[i]?) _ ⟨⟩
        cases m2[i]? with
        | none => rfl
        | some o =>
          cases o <;> first | rfl | skip
          rename_i l
          show WS (if l.length < 100000 then .nx env (m2.set i (.lst (l ++ [y]))) else .stuck) N R B C Z ⟨⟩ = (l.length < 100000 ∧ _)
          by_cases h : l.length < 100000
          · rw [if_pos h]; exact propext ⟨fun q => ⟨h, q⟩, fun q => q.2⟩
          · rw [if_neg h]; exact propext ⟨fun q => q.elim, fun q => absurd q.1 h⟩
      | ex _ _ _ _ => rfl
      | stuck => rfl
  | ex _ _ _ _ => rfl
  | stuck => rfl
def rngTwo : List D → Option (Int × Int)
  | [.int a, .int b] => if -(2 ^ 62) ≤ a ∧ a < 2 ^ 62 ∧ -(2 ^ 62) ≤ b ∧ b < 2 ^ 62 then some (a, b) else none
  | _ => none
theorem i_rng2 {Q : List D × (List M → Prop) → List M → Prop} {k : Kt Q X} {a : DA} : WO (iRngTwo a env μ) Q X k = WO (a env μ) (fun l m => OP (rngTwo l) (fun p : Int × Int => Q (iota p.1 (p.2 - p.1).toNat, fun _ => True) m) ⟨⟩) X ⟨⟩ := by
  unfold iRngTwo
  cases a env μ with
  | ok l m =>
    have go : ∀ l : List D, WO (α := List D × (List M → Prop)) (match l with | [.int a, .int b] => (if -(2 ^ 62) ≤ a ∧ a < 2 ^ 62 ∧ -(2 ^ 62) ≤ b ∧ b < 2 ^ 62 then Out.ok (iota a (b - a).toNat, fun _ : List M => True) m else Out.stuck) | _ => Out.stuck) Q X ⟨⟩ = OP (rngTwo l) (fun p : Int × Int => Q (iota p.1 (p.2 - p.1).toNat, fun _ => True) m) ⟨⟩ := by
      intro l
      unfold rngTwo
      split
      · rename_i a b
        by_cases h : -(2 ^ 62) ≤ a ∧ a < 2 ^ 62 ∧ -(2 ^ 62) ≤ b ∧ b < 2 ^ 62
        · rw [if_pos h, if_pos h]; rfl
        · rw [if_neg h, if_neg h]; rfl
      · rfl
    exact go l
  | ex _ _ _ _ => rfl
  | stuck => rfl
end
end DL
namespace DL
open PySem PySem.Spec PyProof.Rows L2
/-! ### x == y, x an object of a class with an own __eq__ -/
section
variable {X : Cx} {S : Sx} {W : WX} {a b e : Expr} {ta tb : TE} {da db d : DE} {pos : Pos} {k : Nat}
abbrev tOwn (K : PySem.W.Frag) (C : Addr) (sp : Sp) (W : WX) (ta tb : TE) : TE := fun σ H Q => ta σ H fun x H1 => tb σ H1 fun y H2 => ∃ p dx fs t, x = .ref p ∧ H2 p = some (.ins C dx fs) ∧ TyX K H2 y t ∧ PySem.W.notFirst K C t = true ∧
      sp [x, y] H2 (fun v H' => ∃ k, v = .bl k ∧ Q v H') (WE W σ)
theorem own_core {C f : Addr} {fd : FuncData} {ps : List Str} {sp : Sp} (F : FnOk X.prog X.w X.K X.mg X.base (L2M.CX md X.prog X.w) k f fd ps sp) (hr : Room k X.A) (tk : L2M.Takes md X W)
    (hs : PySem.W.findIn X.K (.ref C) "__eq__" = some (some (.ref f))) (hf : PySem.W.isFn X.K (.ref f) = true) (hb : Binds X.K fd ps []) {pins : List (Addr × Obj)} {σ : L2.St} {H2 : Hp} {s2 : Shared} {x y : V} {v u : Value} {Q : VK} (I2 : Inv X pins σ H2 s2) (rx : RelV x v) (ry : RelV y u)
    (q : ∃ p dx fs t, x = .ref p ∧ H2 p = some (.ins C dx fs) ∧ TyX X.K H2 y t ∧ PySem.W.notFirst X.K C t = true ∧ sp [x, y] H2 (fun v H' => ∃ k, v = .bl k ∧ Q v H') (WE W σ)) :
    wpAny (model X.prog X.w) X.A (compareOp .Eq v u) (EP X pins σ Q) X.xe s2 := by
  obtain ⟨p, dx, fs, t, rfl, hp, ty, hn, q⟩ := q
  cases rx
  obtain ⟨mA, J, _⟩ := ins_get I2.hok hp
  obtain ⟨od, J, _⟩ := J.look
  obtain ⟨Pp, kx, hP, _⟩ := kit_of I2 ry ty
  show wpAny (model X.prog X.w) X.A (richCompare .Eq (.ref p) u) (EP X pins σ Q) X.xe s2
  obtain ⟨m, hF⟩ := I2.fr
  refine PySem.W.cmp_K (op := .Eq) (tb := t) hr.units0 hF I2.ok.mod.kin J (kx.ty _ _ I2.kIn hP) hn hs hf ?_
  refine wpAny_mono (run_fnSD F hr hb .nil (L2M.passAt tk σ) I2 (vs := [.ref p, y]) (dvs := []) (.cons rfl (.cons ry .nil)) q) (fun w s' hw => ?_) fun _ _ e => e
  obtain ⟨z, H', I', rz, c, rfl, hq⟩ := hw
  have rz : w = .bool c := rz
  subst rz
  exact ⟨.bl c, H', I', rfl, hq⟩
theorem pe_ownEq {C f : Addr} {fd : FuncData} {ps : List Str} {sp : Sp} (F : FnOk X.prog X.w X.K X.mg X.base (L2M.CX md X.prog X.w) k f fd ps sp) (hr : Room k X.A) (tk : L2M.Takes md X W)
    (hs : PySem.W.findIn X.K (.ref C) "__eq__" = some (some (.ref f))) (hf : PySem.W.isFn X.K (.ref f) = true) (hb : Binds X.K fd ps []) (ha : PE X a ta) (hb' : PE X b tb) (hm : behindInMarks .Eq b = false) :
    PE X (.Compare a [.Eq] [b] pos) (tOwn X.K C sp W ta tb) := by
  refine ⟨fun pins s σ H Q I h => ?_⟩
  exact wpAny_Compare1 (binT ha hb' I h fun v u s2 x y H2 I2 rx ry q => own_core F hr tk hs hf hb I2 rx ry q) hm
theorem pt_ownEq {C f : Addr} {fd : FuncData} {ps : List Str} {sp : Sp} (F : FnOk X.prog X.w X.K X.mg X.base (L2M.CX md X.prog X.w) k f fd ps sp) (hr : Room k X.A) (tk : L2M.Takes md X W)
    (hs : PySem.W.findIn X.K (.ref C) "__eq__" = some (some (.ref f))) (hf : PySem.W.isFn X.K (.ref f) = true) (hb : Binds X.K fd ps []) (ha : PE X a ta) (hb' : PE X b tb) (hm : behindInMarks .Eq b = false) :
    PT X (.Compare a [.Eq] [b] pos) (tTest (tOwn X.K C sp W ta tb)) := by
  refine ⟨fun pins s σ H Q I h => ?_⟩
  refine wpAny_isTrue_Compare1 (thn (ha.run pins s σ H _ I h) fun v s1 ⟨x, H1, I1, r1, q1⟩ => thn (hb'.run pins s1 σ H1 _ I1 q1) fun u s2 ⟨y, H2, I2, r2, q2⟩ =>
    thn (own_core F hr tk hs hf hb I2 r1 r2 q2) fun c s3 ⟨z, H3, I3, r3, k, e, q3⟩ => ?_) hm
  subst e
  cases r3
  exact wpAny_truthy_bool ⟨H3, I3, q3⟩
/-- no class of the things that can stand at the right is asked first -/
def NotF (S : Sx) (c : Str) : Prop := ∀ t ∈ tysOf S, PySem.W.notFirst S.K (S.A c) (tyv S t) = true
def dOwn (c : Str) (G : GF) (da db : DE) : DE := fun env μ => (da env μ).bind fun x μ1 => (db env μ1).bind fun y μ2 => if clsAt μ2 x = some c ∧ (tagOf μ2 y).isSome = true then (G [x, y] μ2).bind fun r μ3 => (match r with
  | .bl b => .ok (.bl b) μ3
  | _ => .stuck) else .stuck
theorem own_run {c : Str} {G : GF} (hK : X.K = S.K) (hF : ∀ x ∈ S.cls, InsF S.K (S.A x)) (hN : NotF S c)
    (ka : ∀ env σ c μ Q, SI S c μ → EnvOk S c env σ → EQ S W σ c Q (da env μ) → ta σ c.H Q) (kb : ∀ env σ c μ Q, SI S c μ → EnvOk S c env σ → EQ S W σ c Q (db env μ) → tb σ c.H Q) :
    ∀ env σ c1 μ Q, SI S c1 μ → EnvOk S c1 env σ → EQ S W σ c1 Q (dOwn c G da db env μ) → tOwn X.K (S.A c) (spD (at0 S 0) 2 G) W ta tb σ c1.H Q := by
  intro env σ c1 μ Q I en q
  refine (show ta σ c1.H fun x H1 => tb σ H1 fun y H2 => ∃ p dx fs t, x = .ref p ∧ H2 p = some (.ins (S.A c) dx fs) ∧ TyX X.K H2 y t ∧ PySem.W.notFirst X.K (S.A c) t = true ∧
      spD (at0 S 0) 2 G [x, y] H2 (fun v H' => ∃ k, v = .bl k ∧ Q v H') (WE W σ) from ?_)
  refine bindE (fun Q' => ka env σ c1 μ Q' I en) q fun x μ1 v c2 s1 I1 r1 q1 => ?_
  refine bindE (fun Q' => kb env σ c2 μ1 Q' I1 (en.step s1)) q1 fun y μ2 u c3 s2 I2 r2 q2 => ?_
  by_cases h : clsAt μ2 x = some c ∧ (tagOf μ2 y).isSome = true
  · rw [if_pos h] at q2
    obtain ⟨a, dx, fs, ns, l, rfl, h2, _⟩ := obj_at I2 (s2.rep r1) h.1
    obtain ⟨t, ht⟩ := Option.isSome_iff_exists.mp h.2
    refine ⟨a, dx, fs, tyv S t, rfl, h2, by rw [hK]; exact tag_at hF I2 r2 ht, by rw [hK]; exact hN t (tag_mem I2 r2 ht), ?_⟩
    refine sp_at (l := [x, y]) (vs := [.ref a, u]) I2 (.cons (s2.rep r1) (.cons r2 .nil)) rfl ?_
    cases e : G [x, y] μ2 with
    | ok r μ3 =>
      rw [e] at q2
      intro v' c' s' I' r'
      cases r with
      | bl b => exact ⟨b, rep_bl.mp r', q2 _ c' s' I' r'⟩
      | _ => exact q2.elim
    | ex x' ns' l' μ3 => rw [e] at q2; exact q2
    | stuck => rw [e] at q2; exact q2
  · rw [if_neg h] at q2; exact q2.elim
variable {S0 : Sx} {n : Nat} {kr : Nat} {G : GF} {c : Str}
theorem own_parts (hK : X.K = S0.K) (C : MetD md X.prog X.w X.K X.mg X.base (at0 S0 0) k c "__eq__" 2 G []) (hk : k ≤ kr) :
    ∃ f fd ps, FnOk X.prog X.w X.K X.mg X.base (L2M.CX md X.prog X.w) kr f fd ps (spD (at0 (at0 S0 n) 0) 2 G) ∧ PySem.W.findIn X.K (.ref (S0.A c)) "__eq__" = some (some (.ref f)) ∧ PySem.W.isFn X.K (.ref f) = true ∧ Binds X.K fd ps [] := by
  obtain ⟨f, fd, ps, h1, h3, h4⟩ := C.ex
  obtain ⟨dvs, dV, b1, b2, b3⟩ := (h3 0 (Nat.le_refl _)).ex
  have e := (b3 [] (fun _ => none)).eq_nil
  subst e
  cases b2
  refine ⟨f, fd, ps, h4.mono hk, ?_, ?_, b1⟩
  · rw [hK]; exact h1.meth.at_
  · rw [hK]; exact h1.meth.fn
theorem pd_own (hK : X.K = S0.K) (C : MetD md X.prog X.w X.K X.mg X.base (at0 S0 0) k c "__eq__" 2 G []) (hr : Room kr X.A) (hk : k ≤ kr) (tk : L2M.Takes md X W) (hF : ∀ x ∈ (at0 S0 n).cls, InsF (at0 S0 n).K ((at0 S0 n).A x)) (hN : NotF (at0 S0 n) c)
    (ha : PDE X (at0 S0 n) W a da) (hb : PDE X (at0 S0 n) W b db) (hm : behindInMarks .Eq b = false) : PDE X (at0 S0 n) W (.Compare a [.Eq] [b] pos) (dOwn c G da db) := by
  obtain ⟨f, fd, ps, h1, h2, h3, h4⟩ := own_parts (n := n) hK C hk
  obtain ⟨ta, pa, ka⟩ := ha.ex
  obtain ⟨tb, pb, kb⟩ := hb.ex
  exact ⟨_, pe_ownEq h1 hr tk h2 h3 h4 pa pb hm, own_run (S := at0 S0 n) hK hF hN ka kb⟩
theorem pdt_own (hK : X.K = S0.K) (C : MetD md X.prog X.w X.K X.mg X.base (at0 S0 0) k c "__eq__" 2 G []) (hr : Room kr X.A) (hk : k ≤ kr) (tk : L2M.Takes md X W) (hF : ∀ x ∈ (at0 S0 n).cls, InsF (at0 S0 n).K ((at0 S0 n).A x)) (hN : NotF (at0 S0 n) c)
    (ha : PDE X (at0 S0 n) W a da) (hb : PDE X (at0 S0 n) W b db) (hm : behindInMarks .Eq b = false) : PDT X (at0 S0 n) W (.Compare a [.Eq] [b] pos) (dTst (dOwn c G da db)) := by
  obtain ⟨f, fd, ps, h1, h2, h3, h4⟩ := own_parts (n := n) hK C hk
  obtain ⟨ta, pa, ka⟩ := ha.ex
  obtain ⟨tb, pb, kb⟩ := hb.ex
  refine ⟨_, pt_ownEq h1 hr tk h2 h3 h4 pa pb hm, fun env σ c1 μ Q I en q => ?_⟩
  show tOwn X.K (S0.A c) (spD (at0 (at0 S0 n) 0) 2 G) W ta tb σ c1.H fun x H' => ∃ k, x = .bl k ∧ Q k H'
  refine bindET (fun Q' => own_run (S := at0 S0 n) hK hF hN ka kb env σ c1 μ Q' I en) q fun x μ1 v c2 s1 I1 r1 q1 => ?_
  cases x with
  | bl k => exact ⟨k, rep_bl.mp r1, q1 c2 I1.step I1⟩
  | _ => exact q1.elim
end
end DL
namespace PySem.W
open PySem PySem.Calls PyProof.Rows
section
variable {prog : Program} {w : World} {A : Around} {E : Value → Shared → Prop} {s : Shared} {K : Frag} {x C L f : Addr} {h₀ : Heap} {m : Str → Option Value} {ox : Obj} {od : Option Obj} {b tb : Value}
theorem one_bind (self : Value) : bindSpecial (.builtin "object.__ne__") self = pure (.builtin "object.__ne__", [self]) :=
  (Slot.of (T := "object") (name := "__ne__") (owner := "object") (n := "__ne__") (by rw [typeLookup_type, builtinLookup_eq_fast]; kernel_rfl) (by decide +kernel) (by decide +kernel) (by decide +kernel)
    (.inl (by decide +kernel)) (by rw [isSubtype_type]; kernel_rfl)).bind self
theorem ifBound_KN {M : Model} {args : List Value} {Q : Option Value → Shared → Prop} (X : K.In s.heap) (I : InstAt s.heap x ox C od) (hs : findIn K (.ref C) "__ne__" = some (some (.builtin "object.__ne__")))
    (h : wpAny M A (call (.builtin "object.__ne__") (.ref x :: args)) (fun v => Q (some v)) E s) : wpAny M A (callSpecialIfBound? (.ref x) "__ne__" args) Q E s := by
  simp only [callSpecialIfBound?, bindSpecialIfBound?]
  refine wpAny_holding (wpAny_bind (wpAny_bind (wpAny_bind (I.type.here ((looks_findIn X hs).here ?_)))))
  refine wpAny_bind (wpAny_askSetting (wpAny_ite ?_))
  have fin : wpAny M A (call (.builtin "object.__ne__") ([.ref x] ++ args) >>= fun v => pure (some v)) Q E s := wpAny_bind (wpAny_mono h (fun v s' h' => wpAny_pure h') fun _ _ h' => h')
  split
  · exact wpAny_bind (by rw [one_bind]; exact wpAny_pure (wpAny_pure (by exact fin)))
  · exact wpAny_tryCatch (wpAny_bind (by rw [one_bind]; exact wpAny_pure (wpAny_pure (by exact fin))))
theorem ne_entry_K {A : Around} {Q : Fin → Shared → Prop} (hu : A.units < cLine) (X : K.In s.heap) (I : InstAt s.heap x ox C od) (hs : findIn K (.ref C) "__eq__" = some (some (.ref f))) (hf : isFn K (.ref f) = true)
    (h : wpAny (model prog w) A (call (.ref f) [.ref x, b]) (fun v s' => ∃ k, v = .bool k ∧ Q (.done (.ret (.bool (!k)))) s') E s) : wpAny (model prog w) A (Builtin.«object.__ne__» ⟨[.ref x, b], []⟩) Q E s := by
  unfold Builtin.«object.__ne__»
  repeat (first
    | with_reducible refine wpAny_cRoomFor hu ?_
    | (refine wpAny_bind (m := callSpecialIfBound? (.ref x) (Str.ofString "__eq__") [b])
        (ifBound_K X I hs hf (wpAny_mono h (fun r s' hr => by
          obtain ⟨k, rfl, hq⟩ := hr
          repeat (first | exact hq | exact wpAny_pure hq | exact wpAny_truthy_bool hq | (refine wpAny_bind (m := truthy (.bool _)) (wpAny_truthy_bool ?_)) | wp_step)) fun _ _ e => e)))
    | wp_step)
theorem check_ne_K {M : Model} {Q : Unit → Shared → Prop} (X : K.In s.heap) (I : InstAt s.heap x ox C od) (ho : subIn K (.ref C) (.type "object") = some true) (hq : Q () s) : wpAny M A (checkBuiltinCall "object.__ne__" ⟨[.ref x, b], []⟩) Q E s := by
  simp only [checkBuiltinCall, F.cmpKind_ne, F.cmpSplit_ne]
  refine wpAny_bind ?_
  · unfold isInstance
    refine wpAny_bind (I.type.here ((looks_subIn X ho).here ?_))
    have ha := F.cmpArgs_ne (.ref x) b
    cases hsig : Manifest.signature? "object.__ne__" with
    | none => exact wpAny_pure hq
    | some sig =>
      simp only [argsOk, hsig] at ha
      have h2 : Bind.checkArgs "object.__ne__" sig ⟨[.ref x, b], []⟩ = pure () := ha
      show wpAny M A (Bind.checkArgs "object.__ne__" sig ⟨[.ref x, b], []⟩) Q E _
      rw [h2]; exact wpAny_pure hq
theorem ne_call_K {A : Around} {Q : Value → Shared → Prop} (hu : A.units + 1 < cLine) (X : K.In s.heap) (I : InstAt s.heap x ox C od) (ho : subIn K (.ref C) (.type "object") = some true) (hs : findIn K (.ref C) "__eq__" = some (some (.ref f))) (hf : isFn K (.ref f) = true)
    (h : wpAny (model prog w) A.in1 (call (.ref f) [.ref x, b]) (fun v s' => ∃ k, v = .bool k ∧ Q (.bool (!k)) s') E s) : wpAny (model prog w) A (call (.builtin "object.__ne__") [.ref x, b]) Q E s := by
  have P : Slot "object" "__ne__" "object.__ne__" := Slot.of (T := "object") (name := "__ne__") (owner := "object") (n := "__ne__") (by rw [typeLookup_type, builtinLookup_eq_fast]; kernel_rfl) (by decide +kernel) (by decide +kernel) (by decide +kernel)
    (.inl (by decide +kernel)) (by rw [isSubtype_type]; kernel_rfl)
  refine wpAny_call (codeAny_call_builtin P.plain F.cmpEntry_ne (check_ne_K X I ho (ne_entry_K (A := A.in1) hu X I hs hf (wpAny_mono h (fun v s' hv => ?_) fun _ _ e => e))))
  obtain ⟨k, rfl, hq⟩ := hv
  first | exact ⟨k, rfl, hq⟩ | exact ⟨k, rfl, wpAny_pure hq⟩ | exact ⟨k, rfl, wpAny_pure (wpAny_pure hq)⟩
theorem ne_K {A : Around} {Q : Value → Shared → Prop} (hu : A.units + 1 < cLine) (X : K.In s.heap) (I : InstAt s.heap x ox C od) (hb : Looks (model prog w) s.heap (typeOf b) tb) (hn : notFirst K C tb = true) (ho : subIn K (.ref C) (.type "object") = some true)
    (hne : findIn K (.ref C) "__ne__" = some (some (.builtin "object.__ne__"))) (hs : findIn K (.ref C) "__eq__" = some (some (.ref f))) (hf : isFn K (.ref f) = true)
    (h : wpAny (model prog w) A.in1 (call (.ref f) [.ref x, b]) (fun v s' => ∃ k, v = .bool k ∧ Q (.bool (!k)) s') E s) : wpAny (model prog w) A (richCompare .NotEq (.ref x) b) Q E s := by
  have one : wpAny (model prog w) A (tryCompare (.ref x) "__ne__" b) (fun r s' => ∃ v, r = some v ∧ Q v s') E s := by
    unfold tryCompare
    refine wpAny_bind (ifBound_KN X I hne (ne_call_K hu X I ho hs hf (wpAny_mono h (fun v s' hv => ?_) fun _ _ e => e)))
    obtain ⟨k, rfl, hq⟩ := hv
    exact ⟨k, rfl, wpAny_pure ⟨_, rfl, hq⟩⟩
  unfold richCompare
  simp only [oneThing_ref]
  refine wpAny_holding (wpAny_bind (wpAny_cRoomFor (Nat.lt_of_succ_lt hu) ?_))
  refine wpAny_bind (I.type.here (wpAny_bind (hb.here ?_)))
  split
  · rename_i q
    have e : subIn K tb (.ref C) = some false := by
      rcases Bool.or_eq_true_iff.mp hn with e | e
      · rw [beq_iff_eq.mp e] at q; simp at q
      · exact beq_iff_eq.mp e
    refine wpAny_bind ((looks_subIn X e).here ?_)
    simp only [Bool.false_eq_true, if_false]
    refine wpAny_bind (wpAny_mono one (fun r s' z => ?_) fun _ _ e => e)
    obtain ⟨v, rfl, hq⟩ := z
    exact wpAny_pure hq
  · refine wpAny_bind (wpAny_pure ?_)
    simp only [Bool.false_eq_true, if_false]
    refine wpAny_bind (wpAny_mono one (fun r s' z => ?_) fun _ _ e => e)
    obtain ⟨v, rfl, hq⟩ := z
    exact wpAny_pure hq
end
end PySem.W
namespace DL
open PySem PySem.Spec PyProof.Rows L2
/-! ### x != y, x an object of a class with an own __eq__ and no __ne__ -/
section
variable {X : Cx} {S : Sx} {W : WX} {a b e : Expr} {ta tb : TE} {da db d : DE} {pos : Pos} {k : Nat}
theorem run_in1 {C f : Addr} {fd : FuncData} {ps : List Str} {sp : Sp} (F : FnOk X.prog X.w X.K X.mg X.base (L2M.CX md X.prog X.w) k f fd ps sp) (hr : Room (k + 1) X.A) (tk : L2M.Takes md X W) (hb : Binds X.K fd ps [])
    {pins : List (Addr × Obj)} {σ : L2.St} {H : Hp} {s : Shared} {us : List Value} {vs : List V} {Q : VK} (I : Inv X pins σ H s) (r : Vals vs us) (h : sp vs H Q (WE W σ)) : wpAny (model X.prog X.w) X.A.in1 (call (.ref f) us) (EP X pins σ Q) X.xe s := by
  have hl := F.len _ _ _ _ h
  have e0 : Env0 X.prog X.w X.K X.mg X.base X.A.in1 X.stack s H := by
    have e := I.env0
    exact ⟨e.frames, e.mod, e.bs, e.bsz, e.funs, e.frf, e.hok, e.bare⟩
  refine wpAny_call (codeAny_mono (F.run X.A.in1 X.stack s H ⟨us, []⟩ us vs Q (WE W σ) hr.in1 e0 (by
    have := hb s us I.kIn (by rw [List.append_nil, ← r.length]; exact hl)
    rwa [List.append_nil] at this) r h) fun r s' hq => ?_)
  cases r with
  | error e => exact (L2M.passAt tk σ) pins H s e s' I hq
  | ok fl =>
    cases fl with
    | ret u => exact I.after hq
    | next => exact False.elim hq
    | brk => exact False.elim hq
    | cont => exact False.elim hq
structure NeF (S : Sx) (c : Str) : Prop where
  ne : PySem.W.findIn S.K (.ref (S.A c)) "__ne__" = some (some (.builtin "object.__ne__"))
  ob : PySem.W.subIn S.K (.ref (S.A c)) (.type "object") = some true
theorem ne_core {C f : Addr} {fd : FuncData} {ps : List Str} {sp : Sp} (F : FnOk X.prog X.w X.K X.mg X.base (L2M.CX md X.prog X.w) k f fd ps sp) (hr : Room (k + 1) X.A) (tk : L2M.Takes md X W)
    (hne : PySem.W.findIn X.K (.ref C) "__ne__" = some (some (.builtin "object.__ne__"))) (ho : PySem.W.subIn X.K (.ref C) (.type "object") = some true)
    (hs : PySem.W.findIn X.K (.ref C) "__eq__" = some (some (.ref f))) (hf : PySem.W.isFn X.K (.ref f) = true) (hb : Binds X.K fd ps []) {pins : List (Addr × Obj)} {σ : L2.St} {H2 : Hp} {s2 : Shared} {x y : V} {v u : Value} {Q : VK} (I2 : Inv X pins σ H2 s2) (rx : RelV x v) (ry : RelV y u)
    (q : ∃ p dx fs t, x = .ref p ∧ H2 p = some (.ins C dx fs) ∧ TyX X.K H2 y t ∧ PySem.W.notFirst X.K C t = true ∧ sp [x, y] H2 (fun v H' => ∃ k, v = .bl k ∧ Q (.bl (!k)) H') (WE W σ)) :
    wpAny (model X.prog X.w) X.A (compareOp .NotEq v u) (EP X pins σ Q) X.xe s2 := by
  obtain ⟨p, dx, fs, t, rfl, hp, ty, hn, q⟩ := q
  cases rx
  obtain ⟨mA, J, _⟩ := ins_get I2.hok hp
  obtain ⟨od, J, _⟩ := J.look
  obtain ⟨Pp, kx, hP, _⟩ := kit_of I2 ry ty
  show wpAny (model X.prog X.w) X.A (richCompare .NotEq (.ref p) u) (EP X pins σ Q) X.xe s2
  refine PySem.W.ne_K (tb := t) (by have := hr.un; omega) I2.kIn J (kx.ty _ _ I2.kIn hP) hn ho hne hs hf ?_
  refine wpAny_mono (run_in1 (C := C) F hr tk hb I2 (vs := [.ref p, y]) (.cons rfl (.cons ry .nil)) q) (fun w s' hw => ?_) fun _ _ e => e
  obtain ⟨z, H', I', rz, c, rfl, hq⟩ := hw
  have rz : w = .bool c := rz
  subst rz
  exact ⟨c, rfl, .bl (!c), H', I', rfl, hq⟩
abbrev tNe (K : PySem.W.Frag) (C : Addr) (sp : Sp) (W : WX) (ta tb : TE) : TE := fun σ H Q => ta σ H fun x H1 => tb σ H1 fun y H2 => ∃ p dx fs t, x = .ref p ∧ H2 p = some (.ins C dx fs) ∧ TyX K H2 y t ∧ PySem.W.notFirst K C t = true ∧
      sp [x, y] H2 (fun v H' => ∃ k, v = .bl k ∧ Q (.bl (!k)) H') (WE W σ)
def dNe (c : Str) (G : GF) (da db : DE) : DE := fun env μ => (da env μ).bind fun x μ1 => (db env μ1).bind fun y μ2 => if clsAt μ2 x = some c ∧ (tagOf μ2 y).isSome = true then (G [x, y] μ2).bind fun r μ3 => (match r with
  | .bl b => .ok (.bl (!b)) μ3
  | _ => .stuck) else .stuck
theorem ne_run {c : Str} {G : GF} (hK : X.K = S.K) (hF : ∀ x ∈ S.cls, InsF S.K (S.A x)) (hN : NotF S c)
    (ka : ∀ env σ c μ Q, SI S c μ → EnvOk S c env σ → EQ S W σ c Q (da env μ) → ta σ c.H Q) (kb : ∀ env σ c μ Q, SI S c μ → EnvOk S c env σ → EQ S W σ c Q (db env μ) → tb σ c.H Q) :
    ∀ env σ c1 μ Q, SI S c1 μ → EnvOk S c1 env σ → EQ S W σ c1 Q (dNe c G da db env μ) → tNe X.K (S.A c) (spD (at0 S 0) 2 G) W ta tb σ c1.H Q := by
  intro env σ c1 μ Q I en q
  refine (show ta σ c1.H fun x H1 => tb σ H1 fun y H2 => ∃ p dx fs t, x = .ref p ∧ H2 p = some (.ins (S.A c) dx fs) ∧ TyX X.K H2 y t ∧ PySem.W.notFirst X.K (S.A c) t = true ∧
      spD (at0 S 0) 2 G [x, y] H2 (fun v H' => ∃ k, v = .bl k ∧ Q (.bl (!k)) H') (WE W σ) from ?_)
  refine bindE (fun Q' => ka env σ c1 μ Q' I en) q fun x μ1 v c2 s1 I1 r1 q1 => ?_
  refine bindE (fun Q' => kb env σ c2 μ1 Q' I1 (en.step s1)) q1 fun y μ2 u c3 s2 I2 r2 q2 => ?_
  by_cases h : clsAt μ2 x = some c ∧ (tagOf μ2 y).isSome = true
  · rw [if_pos h] at q2
    obtain ⟨a, dx, fs, ns, l, rfl, h2, _⟩ := obj_at I2 (s2.rep r1) h.1
    obtain ⟨t, ht⟩ := Option.isSome_iff_exists.mp h.2
    refine ⟨a, dx, fs, tyv S t, rfl, h2, by rw [hK]; exact tag_at hF I2 r2 ht, by rw [hK]; exact hN t (tag_mem I2 r2 ht), ?_⟩
    refine sp_at (l := [x, y]) (vs := [.ref a, u]) I2 (.cons (s2.rep r1) (.cons r2 .nil)) rfl ?_
    cases e : G [x, y] μ2 with
    | ok r μ3 =>
      rw [e] at q2
      intro v' c' s' I' r'
      cases r with
      | bl b => exact ⟨b, rep_bl.mp r', q2 _ c' s' I' (rep_bl.mpr rfl)⟩
      | _ => exact q2.elim
    | ex x' ns' l' μ3 => rw [e] at q2; exact q2
    | stuck => rw [e] at q2; exact q2
  · rw [if_neg h] at q2; exact q2.elim
variable {S0 : Sx} {n : Nat} {kr : Nat} {G : GF} {c : Str}
theorem pd_ne (hK : X.K = S0.K) (C : MetD md X.prog X.w X.K X.mg X.base (at0 S0 0) k c "__eq__" 2 G []) (hr : Room kr X.A) (hk : k + 1 ≤ kr) (tk : L2M.Takes md X W) (hF : ∀ x ∈ (at0 S0 n).cls, InsF (at0 S0 n).K ((at0 S0 n).A x)) (hN : NotF (at0 S0 n) c) (hE : NeF (at0 S0 n) c)
    (ha : PDE X (at0 S0 n) W a da) (hb : PDE X (at0 S0 n) W b db) (hm : behindInMarks .NotEq b = false) : PDE X (at0 S0 n) W (.Compare a [.NotEq] [b] pos) (dNe c G da db) := by
  obtain ⟨f, fd, ps, h1, h2, h3, h4⟩ := own_parts (n := n) hK C (Nat.le_refl k)
  obtain ⟨ta, pa, ka⟩ := ha.ex
  obtain ⟨tb, pb, kb⟩ := hb.ex
  have e1 : PySem.W.findIn X.K (.ref (S0.A c)) "__ne__" = some (some (.builtin "object.__ne__")) := by rw [hK]; exact hE.ne
  have e2 : PySem.W.subIn X.K (.ref (S0.A c)) (.type "object") = some true := by rw [hK]; exact hE.ob
  refine ⟨_, ⟨fun pins s σ H Q I h => ?_⟩, ne_run (S := at0 S0 n) hK hF hN ka kb⟩
  exact wpAny_Compare1 (binT pa pb I h fun v u s2 x y H2 I2 rx ry q => ne_core h1 (hr.mono hk) tk e1 e2 h2 h3 h4 I2 rx ry q) hm
theorem pdt_ne (hK : X.K = S0.K) (C : MetD md X.prog X.w X.K X.mg X.base (at0 S0 0) k c "__eq__" 2 G []) (hr : Room kr X.A) (hk : k + 1 ≤ kr) (tk : L2M.Takes md X W) (hF : ∀ x ∈ (at0 S0 n).cls, InsF (at0 S0 n).K ((at0 S0 n).A x)) (hN : NotF (at0 S0 n) c) (hE : NeF (at0 S0 n) c)
    (ha : PDE X (at0 S0 n) W a da) (hb : PDE X (at0 S0 n) W b db) (hm : behindInMarks .NotEq b = false) : PDT X (at0 S0 n) W (.Compare a [.NotEq] [b] pos) (dTst (dNe c G da db)) := by
  obtain ⟨f, fd, ps, h1, h2, h3, h4⟩ := own_parts (n := n) hK C (Nat.le_refl k)
  obtain ⟨ta, pa, ka⟩ := ha.ex
  obtain ⟨tb, pb, kb⟩ := hb.ex
  have e1 : PySem.W.findIn X.K (.ref (S0.A c)) "__ne__" = some (some (.builtin "object.__ne__")) := by rw [hK]; exact hE.ne
  have e2 : PySem.W.subIn X.K (.ref (S0.A c)) (.type "object") = some true := by rw [hK]; exact hE.ob
  refine ⟨tTest (tNe X.K (S0.A c) (spD (at0 (at0 S0 n) 0) 2 G) W ta tb), ⟨fun pins s σ H Q I h => ?_⟩, fun env σ c1 μ Q I en q => ?_⟩
  · refine wpAny_isTrue_Compare1 (thn (pa.run pins s σ H _ I h) fun v s1 ⟨x, H1, I1, r1, q1⟩ => thn (pb.run pins s1 σ H1 _ I1 q1) fun u s2 ⟨y, H2, I2, r2, q2⟩ =>
      thn (ne_core (Q := fun x H' => ∃ k, x = .bl k ∧ Q k H') h1 (hr.mono hk) tk e1 e2 h2 h3 h4 I2 r1 r2 q2) fun c s3 ⟨z, H3, I3, r3, k, e, q3⟩ => ?_) hm
    subst e
    cases r3
    exact wpAny_truthy_bool ⟨H3, I3, q3⟩
  · show tNe X.K (S0.A c) (spD (at0 (at0 S0 n) 0) 2 G) W ta tb σ c1.H fun x H' => ∃ k, x = .bl k ∧ Q k H'
    refine bindET (fun Q' => ne_run (S := at0 S0 n) hK hF hN ka kb env σ c1 μ Q' I en) q fun x μ1 v c2 s1 I1 r1 q1 => ?_
    cases x with
    | bl k => exact ⟨k, rep_bl.mp r1, q1 c2 I1.step I1⟩
    | _ => exact q1.elim
end
end DL
namespace DL
open PySem PySem.Spec PyProof.Rows L2
/-! ### makings with keywords -/
def pick {α : Type} (idx : List Nat) (xs : List α) : List α := idx.filterMap fun i => xs[i]?
theorem vals_get {xs : List V} {us : List Value} (r : Vals xs us) (i : Nat) : (∃ x u, xs[i]? = some x ∧ us[i]? = some u ∧ RelV x u) ∨ (xs[i]? = none ∧ us[i]? = none) := by
  induction r generalizing i with
  | nil => exact .inr ⟨rfl, rfl⟩
  | cons h t ih =>
    cases i with
    | zero => exact .inl ⟨_, _, rfl, rfl, h⟩
    | succ i => exact ih i
theorem vals_pick {xs : List V} {us : List Value} (r : Vals xs us) : ∀ idx : List Nat, Vals (pick idx xs) (pick idx us)
  | [] => .nil
  | i :: idx => by
    have t := vals_pick r idx
    unfold pick at t ⊢
    rw [List.filterMap_cons, List.filterMap_cons]
    rcases vals_get r i with ⟨x, u, h1, h2, h3⟩ | ⟨h1, h2⟩
    · rw [h1, h2]; exact .cons h3 t
    · rw [h1, h2]; exact t
theorem reps_get {S : Sx} {io : List Addr} {F : Hp} : ∀ (l : List D) {xs : List V} (r : reps S io F l xs) (i : Nat), (∃ d x, l[i]? = some d ∧ xs[i]? = some x ∧ rep S io F d x) ∨ (l[i]? = none ∧ xs[i]? = none)
  | [], _, r, i => by rw [r.eq_nil]; exact .inr ⟨rfl, rfl⟩
  | d :: l, _, r, i => by
    obtain ⟨x, q, rfl, r1, r2⟩ := r.uncons
    cases i with
    | zero => exact .inl ⟨_, _, rfl, rfl, r1⟩
    | succ i => exact reps_get l r2 i
theorem reps_pick {S : Sx} {io : List Addr} {F : Hp} {l : List D} {xs : List V} (r : reps S io F l xs) : ∀ idx : List Nat, reps S io F (pick idx l) (pick idx xs)
  | [] => .nil
  | i :: idx => by
    have t := reps_pick r idx
    unfold pick at t ⊢
    rw [List.filterMap_cons, List.filterMap_cons]
    rcases reps_get l r i with ⟨x, u, h1, h2, h3⟩ | ⟨h1, h2⟩
    · rw [h1, h2]; exact .cons h3 t
    · rw [h1, h2]; exact t
structure PDK (X : Cx) (S : Sx) (W : WX) (kws : List Keyword) (d : DA) : Prop where
  ex : ∃ t, PK X kws t ∧ ∀ env σ c μ Q, SI S c μ → EnvOk S c env σ → AQ S W σ c Q (d env μ) → t σ c.H Q
section
variable {X : Cx} {S : Sx} {W : WX} {a b e : Expr} {es : List Expr} {da db d : DE} {ds dk : DA} {pos p kpos : Pos} {k : Nat} {nm : Option Str} {kws : List Keyword} {f : Addr} {fd : FuncData} {ps ks : List Str} {np n : Nat} {G : GF} {dd : List D} {idx : List Nat}
theorem pdk_nil : PDK X S W [] aNil := by
  obtain ⟨t, pa, ka⟩ := (pda_nil (X := X) (S := S) (W := W)).ex
  exact ⟨tNil, pk_nil, fun env σ c μ Q I en q => q [] c I.step I .nil⟩
theorem pdk_cons (ha : PDE X S W e d) (hr : PDK X S W kws dk) : PDK X S W (⟨nm, e, kpos⟩ :: kws) (aCons d dk) := by
  obtain ⟨te, pe, ke⟩ := ha.ex
  obtain ⟨t, pt, kt⟩ := hr.ex
  refine ⟨_, pk_cons pe pt, fun env σ c μ Q I en q => ?_⟩
  refine (show te σ c.H fun x H1 => t σ H1 fun xs H2 => Q (x :: xs) H2 from ?_)
  refine bindEA (fun Q' => ke env σ c μ Q' I en) q fun x μ1 v c1 s1 I1 r1 q1 => ?_
  refine bindAA (fun Q' => kt env σ c1 μ1 Q' I1 (en.step s1)) q1 fun l μ2 vs c2 s2 I2 r2 q2 => ?_
  exact q2 _ c2 I2.step I2 (.cons (s2.rep r1) r2)
/-- how a making's call with keywords binds -/
structure KwM (S : Sx) (K : PySem.W.Frag) (fd : FuncData) (ps : List Str) (n : Nat) (ks : List Str) (idx : List Nat) (dd : List D) : Prop where
  ex : ∃ (dvs : List V) (its : List Value), Vals dvs its ∧ (∀ io F, reps S io F dd dvs) ∧ ∀ (s : Shared) (self : Value) (us ws : List Value), K.In s.heap → us.length = n → ws.length = ks.length →
    BindsTo s fd ⟨self :: us, ks.zip ws⟩ (ps.zip (self :: pick idx (us ++ (ws ++ its))))
def aPick (n m : Nat) (idx : List Nat) (dd : List D) (ds dk : DA) : DA := fun env μ => (ds env μ).bind fun l μ1 => (dk env μ1).bind fun z μ2 => if l.length = n ∧ z.length = m then .ok (pick idx (l ++ (z ++ dd))) μ2 else .stuck
theorem out_assoc {α β γ : Type} (o : Out α) (f : α → List M → Out β) (g : β → List M → Out γ) : (o.bind f).bind g = o.bind fun x m => (f x m).bind g := by cases o <;> rfl
theorem pd_mkK {c : Str} (hK : X.K = S.K) (hM : MkF S c f) (F : FnOk X.prog X.w X.K X.mg X.base (L2M.CX md X.prog X.w) k f fd ps (spD (at0 S 0) np G)) (hr : Room (k + 1) X.A) (tk : L2M.Takes md X W) (hg : Gl X c) (hm : X.mg c = some (.ref (S.A c))) (hb : KwM S X.K fd ps n ks idx dd)
    (ha : PDA X S W (e :: es) ds) (hkw : PDK X S W kws dk) (hall : (backToKw pos (keywordEach kws X.env)).all (·.1.isSome) = true := by rfl) (hks : (backToKw pos (keywordEach kws X.env)).filterMap (·.1) = ks := by rfl)
    (hdb : (c == ("__debug__" : Str)) = false := by decide) (he : starEach (e :: es) X.env = (false, eval e X.env) :: starEach es X.env := by rfl)
    (hpl : ((backTo pos (starEach (e :: es) X.env)).any (·.1) || (backToKw pos (keywordEach kws X.env)).any (·.1.isNone)) = false := by rfl) :
    PDE X S W (.Call (.Name c p) (e :: es) kws pos) (dMake c np G [] (aPick n ks.length idx dd ds dk)) := by
  obtain ⟨t, pa, ka⟩ := ha.ex
  obtain ⟨tq, pq, kq⟩ := hkw.ex
  obtain ⟨dvs, its, h1, h2, h3⟩ := hb.ex
  refine ⟨fun σ H Q => t σ H fun vs H1 => tq σ H1 fun zs H2 => vs.length = n ∧ zs.length = ks.length ∧ ∀ x dx, H2 x = none → H2 dx = none → dx ≠ x → spD (at0 S 0) np G (.ref x :: pick idx (vs ++ (zs ++ dvs))) (upd (upd H2 dx (.own x)) x (.ins (S.A c) dx [])) (fun v H2 => v = .non ∧ Q (.ref x) H2) (WE W σ),
    ⟨fun pins s σ H Q I h => ?_⟩, fun env σ c1 μ Q I en q => ?_⟩
  · refine wpAny_Call_Name_kw (ld_glob I hg hm ?_ hdb)
    have kc : PySem.W.keepIn X.K (.ref (S.A c)) = true := by rw [hK]; exact hM.mke.kp
    have M1 : Mk X.K (S.A c) f := by rw [hK]; exact hM.mke
    refine PySem.W.callWith_KW (h₀ := X.base) I.ok.mod.kin kc hall (thn (pa.run pos pins s σ H _ I h) fun us s1 ⟨vs, H1, I1, r, q⟩ => ?_) hpl he
    refine thn (pq.run pos pins s1 σ H1 _ I1 q) fun ws s2 ⟨zs, H2, I2, rz, l1, l2, q2⟩ => ⟨I2.kIn, ?_⟩
    rw [hks]
    refine make_go (bs := pick idx (us ++ (ws ++ its))) M1 F hr (fun s3 self k2 l3 => h3 s3 self us ws k2 (r.length.symm.trans l1) (rz.length.symm.trans l2)) (L2M.passAt tk σ) I2 (vals_pick (r.append (rz.append h1)) idx) q2
  · refine (show t σ c1.H fun vs H1 => tq σ H1 fun zs H2 => vs.length = n ∧ zs.length = ks.length ∧ ∀ x dx, H2 x = none → H2 dx = none → dx ≠ x → spD (at0 S 0) np G (.ref x :: pick idx (vs ++ (zs ++ dvs))) (upd (upd H2 dx (.own x)) x (.ins (S.A c) dx [])) (fun v H2 => v = .non ∧ Q (.ref x) H2) (WE W σ) from ?_)
    unfold dMake aPick at q
    rw [out_assoc] at q
    refine bindAE (fun Q' => ka env σ c1 μ Q' I en) q fun l μ1 vs c2 s1 I1 r1 q1 => ?_
    rw [out_assoc] at q1
    refine bindAE (fun Q' => kq env σ c2 μ1 Q' I1 (en.step s1)) q1 fun z μ2 zs c3 s2 I2 r2 q2 => ?_
    by_cases hl : l.length = n ∧ z.length = ks.length
    · rw [if_pos hl] at q2
      refine ⟨by rw [← r1.len]; exact hl.1, by rw [← r2.len]; exact hl.2, fun x dx hx hdx hne => ?_⟩
      have q2 : EQ S W σ c3 Q (if (pick idx (l ++ (z ++ dd)) ++ []).length + 1 = np then _ else _) := q2
      rw [List.append_nil] at q2
      by_cases hn : (pick idx (l ++ (z ++ dd))).length + 1 = np
      · rw [if_pos hn] at q2
        exact make_sp hM.mem I2 (reps_pick ((s2.reps r1).append (r2.append (h2 _ _))) idx) hn hx hdx hne q2
      · rw [if_neg hn] at q2; exact False.elim q2
    · rw [if_neg hl] at q2; exact False.elim q2
theorem pd_mkK0 {c : Str} (hK : X.K = S.K) (hM : MkF S c f) (F : FnOk X.prog X.w X.K X.mg X.base (L2M.CX md X.prog X.w) k f fd ps (spD (at0 S 0) np G)) (hr : Room (k + 1) X.A) (tk : L2M.Takes md X W) (hg : Gl X c) (hm : X.mg c = some (.ref (S.A c))) (hb : KwM S X.K fd ps 0 ks idx dd)
    (hkw : PDK X S W kws dk) (hall : (backToKw pos (keywordEach kws X.env)).all (·.1.isSome) = true := by rfl) (hks : (backToKw pos (keywordEach kws X.env)).filterMap (·.1) = ks := by rfl)
    (hdb : (c == ("__debug__" : Str)) = false := by decide)
    (hpl : ((backTo pos (starEach [] X.env)).any (·.1) || (backToKw pos (keywordEach kws X.env)).any (·.1.isNone)) = false := by rfl) :
    PDE X S W (.Call (.Name c p) [] kws pos) (dMake c np G [] (aPick 0 ks.length idx dd aNil dk)) := by
  obtain ⟨tq, pq, kq⟩ := hkw.ex
  obtain ⟨dvs, its, h1, h2, h3⟩ := hb.ex
  refine ⟨fun σ H Q => tq σ H fun zs H2 => zs.length = ks.length ∧ ∀ x dx, H2 x = none → H2 dx = none → dx ≠ x → spD (at0 S 0) np G (.ref x :: pick idx (zs ++ dvs)) (upd (upd H2 dx (.own x)) x (.ins (S.A c) dx [])) (fun v H2 => v = .non ∧ Q (.ref x) H2) (WE W σ),
    ⟨fun pins s σ H Q I h => ?_⟩, fun env σ c1 μ Q I en q => ?_⟩
  · refine wpAny_Call_Name_kw (ld_glob I hg hm ?_ hdb)
    have kc : PySem.W.keepIn X.K (.ref (S.A c)) = true := by rw [hK]; exact hM.mke.kp
    have M1 : Mk X.K (S.A c) f := by rw [hK]; exact hM.mke
    refine PySem.W.callWith_KW0 (h₀ := X.base) I.ok.mod.kin kc hall (thn (pq.run pos pins s σ H _ I h) fun ws s2 ⟨zs, H2, I2, rz, l2, q2⟩ => ⟨I2.kIn, ?_⟩) hpl
    rw [hks]
    refine make_go (bs := pick idx ([] ++ (ws ++ its))) M1 F hr (fun s3 self k2 l3 => h3 s3 self [] ws k2 rfl (rz.length.symm.trans l2)) (L2M.passAt tk σ) I2 (vals_pick (rz.append h1) idx) q2
  · refine (show tq σ c1.H fun zs H2 => zs.length = ks.length ∧ ∀ x dx, H2 x = none → H2 dx = none → dx ≠ x → spD (at0 S 0) np G (.ref x :: pick idx (zs ++ dvs)) (upd (upd H2 dx (.own x)) x (.ins (S.A c) dx [])) (fun v H2 => v = .non ∧ Q (.ref x) H2) (WE W σ) from ?_)
    unfold dMake aPick at q
    have q : EQ S W σ c1 Q (((dk env μ).bind fun z μ2 => if ([] : List D).length = 0 ∧ z.length = ks.length then Out.ok (pick idx ([] ++ (z ++ dd))) μ2 else .stuck).bind _) := q
    rw [out_assoc] at q
    refine bindAE (fun Q' => kq env σ c1 μ Q' I en) q fun z μ2 zs c3 s2 I2 r2 q2 => ?_
    by_cases hl : ([] : List D).length = 0 ∧ z.length = ks.length
    · rw [if_pos hl] at q2
      refine ⟨by rw [← r2.len]; exact hl.2, fun x dx hx hdx hne => ?_⟩
      have q2 : EQ S W σ c3 Q (if (pick idx (z ++ dd) ++ []).length + 1 = np then _ else _) := q2
      rw [List.append_nil] at q2
      by_cases hn : (pick idx (z ++ dd)).length + 1 = np
      · rw [if_pos hn] at q2
        have e0 : pick idx (([] : List D) ++ (z ++ dd)) ++ [] = pick idx (z ++ dd) := List.append_nil _
        rw [e0] at q2
        exact make_sp hM.mem I2 (reps_pick (r2.append (h2 _ _)) idx) hn hx hdx hne q2
      · rw [if_neg hn] at q2; exact False.elim q2
    · rw [if_neg hl] at q2; exact False.elim q2
end
end DL
namespace DL
open PySem PySem.Spec PyProof.Rows L2
/-! ### str(x), repr(x), f'{x}' of an object whose class says how -/
section
variable {X : Cx} {S : Sx} {W : WX} {a b e : Expr} {ta tb : TE} {da db d : DE} {pos p : Pos} {k : Nat} {C f : Addr} {fd : FuncData} {ps : List Str} {sp : Sp}
theorem run_atA {A' : Around} (hfr : A'.frames = X.A.frames) (F : FnOk X.prog X.w X.K X.mg X.base (L2M.CX md X.prog X.w) k f fd ps sp) (hr : Room k A') (tk : L2M.Takes md X W) (hb : Binds X.K fd ps [])
    {pins : List (Addr × Obj)} {σ : L2.St} {H : Hp} {s : Shared} {us : List Value} {vs : List V} {Q : VK} (I : Inv X pins σ H s) (r : Vals vs us) (h : sp vs H Q (WE W σ)) : wpAny (model X.prog X.w) A' (call (.ref f) us) (EP X pins σ Q) X.xe s := by
  have hl := F.len _ _ _ _ h
  have e0 : Env0 X.prog X.w X.K X.mg X.base A' X.stack s H := by
    have e := I.env0
    exact ⟨hfr.trans e.frames, e.mod, e.bs, e.bsz, e.funs, e.frf, e.hok, e.bare⟩
  refine wpAny_call (codeAny_mono (F.run A' X.stack s H ⟨us, []⟩ us vs Q (WE W σ) hr e0 (by
    have := hb s us I.kIn (by rw [List.append_nil, ← r.length]; exact hl)
    rwa [List.append_nil] at this) r h) fun r s' hq => ?_)
  cases r with
  | error e => exact (L2M.passAt tk σ) pins H s e s' I hq
  | ok fl =>
    cases fl with
    | ret u => exact I.after hq
    | next => exact False.elim hq
    | brk => exact False.elim hq
    | cont => exact False.elim hq
theorem str_core (F : FnOk X.prog X.w X.K X.mg X.base (L2M.CX md X.prog X.w) k f fd ps sp) (hr : Room (k + 2) X.A) (tk : L2M.Takes md X W) (hs : PySem.W.findIn X.K (.ref C) "__str__" = some (some (.ref f))) (hf : PySem.W.isFn X.K (.ref f) = true) (hb : Binds X.K fd ps [])
    {pins : List (Addr × Obj)} {σ : L2.St} {H : Hp} {s : Shared} {q dx : Addr} {fs : List (Str × V)} {Q : VK} (I : Inv X pins σ H s) (hp : H q = some (.ins C dx fs)) (h : sp [.ref q] H (fun v H' => ∃ z, v = .str z ∧ Q v H') (WE W σ)) :
    wpAny (model X.prog X.w) X.A (call (.type "str") [.ref q]) (EP X pins σ Q) X.xe s := by
  obtain ⟨mA, J, _⟩ := ins_get I.hok hp
  obtain ⟨od, J, _⟩ := J.look
  refine PySem.W.kso_call (hr.in1.in1.units0) I.kIn J hs hf ?_
  refine wpAny_mono (run_atA (A' := X.A.in1.in1) rfl F hr.in1.in1 tk hb I (vs := [.ref q]) (.cons rfl .nil) h) (fun w s' hw => ?_) fun _ _ e => e
  obtain ⟨z, H', I', rz, y, rfl, hq⟩ := hw
  obtain ⟨t, rfl⟩ := rz
  exact ⟨.str y, H', I', ⟨t, rfl⟩, hq⟩
abbrev tObS (C : Addr) (sp : Sp) (W : WX) (ta : TE) : TE := fun σ H Q => ta σ H fun x H1 => ∃ q dx fs, [x] = [V.ref q] ∧ H1 q = some (.ins C dx fs) ∧ sp [x] H1 (fun v H' => ∃ z, v = .str z ∧ Q v H') (WE W σ)
def dObS (c : Str) (G : GF) (da : DE) : DE := fun env μ => (da env μ).bind fun x μ1 => if clsAt μ1 x = some c then (G [x] μ1).bind fun r μ2 => (match r with
  | .str z => .ok (.str z) μ2
  | _ => .stuck) else .stuck
theorem obs_run {c : Str} {G : GF} (ka : ∀ env σ c μ Q, SI S c μ → EnvOk S c env σ → EQ S W σ c Q (da env μ) → ta σ c.H Q) :
    ∀ env σ c1 μ Q, SI S c1 μ → EnvOk S c1 env σ → EQ S W σ c1 Q (dObS c G da env μ) → tObS (S.A c) (spD (at0 S 0) 1 G) W ta σ c1.H Q := by
  intro env σ c1 μ Q I en q
  refine (show ta σ c1.H fun x H1 => ∃ q dx fs, [x] = [V.ref q] ∧ H1 q = some (.ins (S.A c) dx fs) ∧ spD (at0 S 0) 1 G [x] H1 (fun v H' => ∃ z, v = .str z ∧ Q v H') (WE W σ) from ?_)
  refine bindE (fun Q' => ka env σ c1 μ Q' I en) q fun x μ1 v c2 s1 I1 r1 q1 => ?_
  by_cases h : clsAt μ1 x = some c
  · rw [if_pos h] at q1
    obtain ⟨a, dx, fs, ns, l, rfl, h2, _⟩ := obj_at I1 r1 h
    refine ⟨a, dx, fs, rfl, h2, sp_at (l := [x]) (vs := [.ref a]) I1 (.cons r1 .nil) rfl ?_⟩
    cases e : G [x] μ1 with
    | ok r μ3 =>
      rw [e] at q1
      intro v' c' s' I' r'
      cases r with
      | str z => exact ⟨z, (rep_str.mp r').1, q1 _ c' s' I' r'⟩
      | _ => exact q1.elim
    | ex x' ns' l' μ3 => rw [e] at q1; exact q1
    | stuck => rw [e] at q1; exact q1
  · rw [if_neg h] at q1; exact q1.elim
variable {S0 : Sx} {n : Nat} {kr : Nat} {G : GF} {c : Str}
theorem met_parts {m : Str} {np : Nat} (hK : X.K = S0.K) (C : MetD md X.prog X.w X.K X.mg X.base (at0 S0 0) k c m np G []) (hk : k ≤ kr) :
    ∃ f fd ps, FnOk X.prog X.w X.K X.mg X.base (L2M.CX md X.prog X.w) kr f fd ps (spD (at0 (at0 S0 n) 0) np G) ∧ PySem.W.findIn X.K (.ref (S0.A c)) m = some (some (.ref f)) ∧ PySem.W.isFn X.K (.ref f) = true ∧ Binds X.K fd ps [] := by
  obtain ⟨f, fd, ps, h1, h3, h4⟩ := C.ex
  obtain ⟨dvs, dV, b1, b2, b3⟩ := (h3 0 (Nat.le_refl _)).ex
  have e := (b3 [] (fun _ => none)).eq_nil
  subst e
  cases b2
  refine ⟨f, fd, ps, h4.mono hk, ?_, ?_, b1⟩
  · rw [hK]; exact h1.meth.at_
  · rw [hK]; exact h1.meth.fn
theorem pd_strO (hK : X.K = S0.K) (C : MetD md X.prog X.w X.K X.mg X.base (at0 S0 0) k c "__str__" 1 G []) (hr : Room kr X.A) (hk : k + 2 ≤ kr) (tk : L2M.Takes md X W) (hg : Gl X "str") (hm : X.mg "str" = none)
    (ha : PDE X (at0 S0 n) W a da) (he : starEach [a] X.env = (false, eval a X.env) :: starEach [] X.env := by rfl) (hpl : (backTo pos (starEach [] X.env)).any (·.1) = false := by rfl) : PDE X (at0 S0 n) W (.Call (.Name "str" p) [a] [] pos) (dObS c G da) := by
  obtain ⟨f, fd, ps, h1, h2, h3, h4⟩ := met_parts (n := n) hK C (Nat.le_refl k)
  obtain ⟨ta, pa, ka⟩ := ha.ex
  refine ⟨_, ⟨fun pins s σ H Q I h => ?_⟩, obs_run (S := at0 S0 n) ka⟩
  refine wpAny_Call_Name_kw (ld_blt I hg hm boot_str ?_ (by decide) (by decide))
  refine PyProof.Rows.callWith_type1 (thn ((pa_cons pa pa_nil he).run pos pins s σ H (fun vs H1 => ∃ q dx fs, vs = [V.ref q] ∧ H1 q = some (.ins (S0.A c) dx fs) ∧ spD (at0 (at0 S0 n) 0) 1 G vs H1 (fun v H' => ∃ z, v = .str z ∧ Q v H') (WE W σ)) I h) fun us s1 ⟨vs, H1, I1, r1, q, dx, fs, e, hq, q1⟩ => ?_) he hpl
  subst e
  cases r1 with
  | cons r0 r1 =>
    cases r1
    cases r0
    exact str_core h1 (hr.mono hk) tk h2 h3 h4 I1 hq q1
/-! f'{x}' of a text, an int, None -/
def fmtS : D → Option Str
  | .str z => if z.length ≤ 100000 then some z else none
  | .int i => if i.natAbs.log2 < 1920 then some (toString i) else none
  | .non => some "None"
  | _ => none
def dFmt (da : DE) : DE := fun env μ => (da env μ).bind fun x μ1 => match fmtS x with
  | some z => .ok (.str z) μ1
  | none => .stuck
/-! the parts of f'..' -/
def fsGo : List DE → Str → En → List M → Out D
  | [], acc, _, μ => .ok (.str acc) μ
  | d :: ds, acc, env, μ => (d env μ).bind fun x μ1 => match x with
    | .str y => if (acc ++ y).length ≤ 100000 then fsGo ds (acc ++ y) env μ1 else .stuck
    | _ => .stuck
def dFs (ds : List DE) : DE := fun env μ => fsGo ds Str.empty env μ
/-! ### a local name that holds a def -/
def dCallA (i : Nat) (ds : DA) : List (Str × Nat × GF) → DE
  | [] => fun _ _ => .stuck
  | (x, np, G) :: cs => fun env μ => match env[i]?.join with
    | some (.glo y) => if y = x then (ds env μ).bind fun l μ1 => if l.length = np then G l μ1 else .stuck else dCallA i ds cs env μ
    | _ => .stuck
theorem pd_ca_nil {i : Nat} {ds : DA} : PDE X S W e (dCallA i ds []) := ⟨fun _ _ _ => False, ⟨fun _ _ _ _ _ _ h => h.elim⟩, fun _ _ _ _ _ _ _ q => q.elim⟩
theorem pe_callLS {i : Nat} {y : Str} {e0 : Expr} {es : List Expr} {t : TA} (F : FnOk X.prog X.w X.K X.mg X.base (L2M.CX md X.prog X.w) k f fd ps sp) (hr : Room k X.A) (tk : L2M.Takes md X W) (hN : X.N[i]? = some y) (hv : Vis X.env.scope y) (hk : PySem.W.keepIn X.K (.ref f) = true) (hb : Binds X.K fd ps []) (ha : PA X (e0 :: es) t)
    (hdb : (y == ("__debug__" : Str)) = false) (hcd : (y == ("__classdict__" : Str)) = false)
    (he : starEach (e0 :: es) X.env = (false, eval e0 X.env) :: starEach es X.env) (hpl : (backTo pos (starEach es X.env)).any (·.1) = false) :
    PE X (.Call (.Name y p) (e0 :: es) [] pos) (fun σ H Q => σ[i]? = some (some (.ref f)) ∧ t σ H fun vs H1 => sp vs H1 Q (WE W σ)) := by
  refine ⟨fun pins s σ H Q I h => ?_⟩
  obtain ⟨hs, ht⟩ := h
  refine wpAny_Call_Name_kw (thn ((pe_var (pos := p) hN hv hdb hcd).run pins s σ H (fun v H1 => v = .ref f ∧ H1 = H) I ⟨.ref f, hs, rfl, rfl⟩) fun u s1 ⟨v, H1, I1, r1, q1⟩ => ?_)
  obtain ⟨rfl, rfl⟩ := q1
  cases r1
  refine PySem.W.callWith_K (h₀ := X.base) I.ok.mod.kin hk (thn (ha.run pos pins s1 σ _ _ I1 ht) fun us s2 ⟨vs, H2, I2, r, q⟩ => ⟨I2.kIn, ?_⟩) he hpl
  exact run_fnSD F hr hb .nil (L2M.passAt tk σ) I2 (dvs := []) r (by rw [List.append_nil]; exact q)
theorem pd_ca_cons {i : Nat} {ds : DA} {cs : List (Str × Nat × GF)} {y x : Str} {e0 : Expr} {es : List Expr} {np : Nat} (hK : X.K = S0.K) (hm : X.mg x = some (.ref (S0.A x))) (hc : CalD md X.prog X.w X.K X.mg X.base (at0 S0 0) k x np G []) (hr : Room kr X.A) (hk : k ≤ kr) (tk : L2M.Takes md X W) (hN : X.N[i]? = some y) (hv : Vis X.env.scope y) (ha : PDA X (at0 S0 n) W (e0 :: es) ds)
    (hrest : PDE X (at0 S0 n) W (.Call (.Name y p) (e0 :: es) [] pos) (dCallA i ds cs)) (hdb : (y == ("__debug__" : Str)) = false := by decide) (hcd : (y == ("__classdict__" : Str)) = false := by decide)
    (he : starEach (e0 :: es) X.env = (false, eval e0 X.env) :: starEach es X.env := by rfl) (hpl : (backTo pos (starEach es X.env)).any (·.1) = false := by rfl) :
    PDE X (at0 S0 n) W (.Call (.Name y p) (e0 :: es) [] pos) (dCallA i ds ((x, np, G) :: cs)) := by
  obtain ⟨f, fd, ps, h1, h2, h3, h4⟩ := hc.ex
  have ef : f = S0.A x := by
    rw [hm] at h1
    cases h1
    rfl
  subst ef
  obtain ⟨dvs, dV, b1, b2, b3⟩ := (h3 0 (Nat.le_refl _)).ex
  have e1 := (b3 [] (fun _ => none)).eq_nil
  subst e1
  cases b2
  obtain ⟨t, pa, ka⟩ := ha.ex
  obtain ⟨t2, p2, k2⟩ := hrest.ex
  have p1 := pe_callLS (W := W) (p := p) (pos := pos) (i := i) (y := y) (h4.mono hk) hr tk hN hv h2 b1 pa hdb hcd he hpl
  refine ⟨fun σ H Q => (σ[i]? = some (some (.ref (S0.A x))) ∧ t σ H fun vs H1 => spD (at0 S0 0) np G vs H1 Q (WE W σ)) ∨ t2 σ H Q, ⟨fun pins s σ H Q I h => h.elim (p1.run pins s σ H Q I) (p2.run pins s σ H Q I)⟩, fun env σ c μ Q I en q => ?_⟩
  have q : EQ (at0 S0 n) W σ c Q (match env[i]?.join with | some (.glo y) => if y = x then (ds env μ).bind fun l μ1 => if l.length = np then G l μ1 else .stuck else dCallA i ds cs env μ | _ => .stuck) := q
  cases e2 : env[i]? with
  | none => rw [e2] at q; exact q.elim
  | some o =>
    cases o with
    | none => rw [e2] at q; exact q.elim
    | some d =>
      rw [e2] at q
      cases d with
      | glo z =>
        have q2 : EQ (at0 S0 n) W σ c Q (if z = x then (ds env μ).bind fun l μ1 => if l.length = np then G l μ1 else .stuck else dCallA i ds cs env μ) := q
        clear q
        by_cases hz : z = x
        · rw [if_pos hz] at q2
          subst hz
          obtain ⟨v, hs, rv⟩ := en.at_ i _ e2
          have rv := rep_glo.mp rv
          subst rv
          refine .inl ⟨hs, ?_⟩
          refine bindAE (fun Q' => ka env σ c μ Q' I en) q2 fun l μ1 vs c2 s1 I1 r1 q1 => ?_
          by_cases hl : l.length = np
          · rw [if_pos hl] at q1
            exact sp_at (S := at0 S0 n) I1 r1 hl q1
          · rw [if_neg hl] at q1
            exact q1.elim
        · rw [if_neg hz] at q2
          exact .inr (k2 env σ c μ Q I en q2)
      | _ => exact q.elim
end
end DL
namespace DL
open PySem PySem.Spec PyProof.Rows L2
/-! ### defaults, as data -/
def toV : D → V
  | .non => .non | .bl b => .bl b | .int i => .int i | .str s => .str s
  | _ => .non
def isSimple : D → Bool
  | .non => true | .bl _ => true | .int _ => true | .str s => okS s
  | _ => false
theorem rep_simple {S : Sx} {io : List Addr} {F : Hp} : ∀ {d : D}, isSimple d = true → rep S io F d (toV d)
  | .non, _ => rep_non.mpr rfl
  | .bl _, _ => rep_bl.mpr rfl
  | .int _, _ => rep_int.mpr rfl
  | .str _, h => rep_str.mpr ⟨rfl, h⟩
  | .ty _, h => nomatch h
  | .glo _, h => nomatch h
  | .tup _, h => nomatch h
  | .lst _, h => nomatch h
  | .dct _ _, h => nomatch h
  | .obj _ _ _, h => nomatch h
  | .cel _, h => nomatch h
  | .scr _, h => nomatch h
  | .exc _ _ _, h => nomatch h
theorem reps_simple {S : Sx} {io : List Addr} {F : Hp} : ∀ {l : List D}, l.all isSimple = true → reps S io F l (l.map toV)
  | [], _ => .nil
  | d :: l, h => by
    have h := Bool.and_eq_true_iff.mp h
    exact .cons (rep_simple h.1) (reps_simple h.2)
section
variable {K : PySem.W.Frag} {x qual : Str} {params : Arguments} {body : List Stmt} {scope : Scope} {dvs : List V} {kws : List (Str × V)} {f : Addr} {fd : FuncData} {ps ks : List Str} {S : Sx} {dd : List D} {ds : List Value} {n : Nat} {idx : List Nat}
theorem dfl_of {j : Nat} (hs : dd.all isSimple = true) (h : Vals ((dd.map toV).drop j) ds) (hb : Binds K fd ps ds) : DflD S K fd ps (dd.drop j) :=
  ⟨_, _, hb, h, fun io F => (reps_simple hs).drop j⟩
/-! ### keywords -/
theorem kwm_of (F : FunD K x qual params body scope dvs kws f fd) (hd : dvs ≠ []) (hs : dd.all isSimple = true) (he : dvs = dd.map toV)
    (h : ∀ (T : Addr) (kV doc pm : Value) (an : Option Addr) (cdv ct : Value) (self : Value) (us its ws : List Value), us.length = n → its.length = dvs.length → ws.length = ks.length →
      ∃ k, bindArgs (PySem.W.fnOf x qual params body scope (.ref T) kV doc pm an cdv ct) ⟨self :: us, ks.zip ws⟩ = seqItems? (.ref T) >>= k ∧ k (some its.toArray) = pure (ps.zip (self :: pick idx (us ++ (ws ++ its))))) : KwM S K fd ps n ks idx dd := by
  obtain ⟨oc, od, dV, kV, doc, pm, an, cdv, ct, osl, rfl, lk, hcd, hD, hK⟩ := F.ex
  rcases hD with ⟨e, _⟩ | ⟨_, T, o, its, m, rfl, lT, oT, rT⟩
  · exact absurd e hd
  · refine ⟨dvs, its, rT, fun io F => by rw [he]; exact reps_simple hs, fun s self us ws X l1 l2 => ?_⟩
    obtain ⟨k, e1, e2⟩ := h T kV doc pm an cdv ct self us its ws l1 rT.length.symm l2
    refine BindsTo.of_looks fun M => ?_
    rw [e1]
    exact looks_items X lT oT (.of_pure e2)
/-- how a def's call with keywords binds -/
structure KwF (S : Sx) (K : PySem.W.Frag) (fd : FuncData) (ps : List Str) (n : Nat) (ks : List Str) (idx : List Nat) (dd : List D) : Prop where
  ex : ∃ (dvs : List V) (its : List Value), Vals dvs its ∧ (∀ io F, reps S io F dd dvs) ∧ ∀ (s : Shared) (us ws : List Value), K.In s.heap → us.length = n → ws.length = ks.length →
    BindsTo s fd ⟨us, ks.zip ws⟩ (ps.zip (pick idx (us ++ (ws ++ its))))
end
section
variable {X : Cx} {S : Sx} {W : WX} {a b e o : Expr} {es : List Expr} {da db d : DE} {ds dk : DA} {pos p apos : Pos} {k : Nat} {nm : Option Str} {kws : List Keyword} {f : Addr} {fd : FuncData} {ps ks : List Str} {np n : Nat} {G : GF} {dd : List D} {idx : List Nat} {x m c : Str} {sp : Sp}
/-! the bundles that a walk takes -/
theorem KwM.at0 {S : Sx} {n1 : Nat} {K : PySem.W.Frag} (h : KwM S K fd ps n ks idx dd) : KwM (DL.at0 S n1) K fd ps n ks idx dd := by
  obtain ⟨a, b, h1, h2, h3⟩ := h.ex
  exact ⟨a, b, h1, fun io F => (reps_at _).mpr (h2 io F), h3⟩
theorem KwF.at0 {S : Sx} {n1 : Nat} {K : PySem.W.Frag} (h : KwF S K fd ps n ks idx dd) : KwF (DL.at0 S n1) K fd ps n ks idx dd := by
  obtain ⟨a, b, h1, h2, h3⟩ := h.ex
  exact ⟨a, b, h1, fun io F => (reps_at _).mpr (h2 io F), h3⟩
structure MakK (md : Bool) (P : Program) (w : World) (K : PySem.W.Frag) (mg : Str → Option Value) (base : Heap) (S : Sx) (k : Nat) (c : Str) (np : Nat) (G : GF) (n : Nat) (ks : List Str) (idx : List Nat) (dd : List D) : Prop where
  ex : ∃ (f : Addr) (fd : FuncData) (ps : List Str), mg c = some (.ref (S.A c)) ∧ MkF S c f ∧ KwM S K fd ps n ks idx dd ∧ FnOk P w K mg base (L2M.CX md P w) k f fd ps (spD S np G)
variable {S0 : Sx} {n0 kr : Nat}
theorem pd_mkk (hK : X.K = S0.K) (C : MakK md X.prog X.w X.K X.mg X.base (at0 S0 0) k c np G n ks idx dd) (hr : Room kr X.A) (hk : k + 1 ≤ kr) (tk : L2M.Takes md X W) (hg : Gl X c)
    (ha : PDA X (at0 S0 n0) W (e :: es) ds) (hkw : PDK X (at0 S0 n0) W kws dk) (hall : (backToKw pos (keywordEach kws X.env)).all (·.1.isSome) = true := by rfl) (hks : (backToKw pos (keywordEach kws X.env)).filterMap (·.1) = ks := by rfl)
    (hdb : (c == ("__debug__" : Str)) = false := by decide) (he : starEach (e :: es) X.env = (false, eval e X.env) :: starEach es X.env := by rfl)
    (hpl : ((backTo pos (starEach (e :: es) X.env)).any (·.1) || (backToKw pos (keywordEach kws X.env)).any (·.1.isNone)) = false := by rfl) :
    PDE X (at0 S0 n0) W (.Call (.Name c p) (e :: es) kws pos) (dMake c np G [] (aPick n ks.length idx dd ds dk)) := by
  obtain ⟨f, fd, ps, h1, h2, h3, h4⟩ := C.ex
  exact DL.pd_mkK (S := at0 S0 n0) hK ⟨h2.mke, h2.mem⟩ h4 (hr.mono hk) tk hg h1 (h3.at0 (n1 := n0)) ha hkw hall hks hdb he hpl
theorem pd_mkk0 (hK : X.K = S0.K) (C : MakK md X.prog X.w X.K X.mg X.base (at0 S0 0) k c np G 0 ks idx dd) (hr : Room kr X.A) (hk : k + 1 ≤ kr) (tk : L2M.Takes md X W) (hg : Gl X c)
    (hkw : PDK X (at0 S0 n0) W kws dk) (hall : (backToKw pos (keywordEach kws X.env)).all (·.1.isSome) = true := by rfl) (hks : (backToKw pos (keywordEach kws X.env)).filterMap (·.1) = ks := by rfl)
    (hdb : (c == ("__debug__" : Str)) = false := by decide)
    (hpl : ((backTo pos (starEach [] X.env)).any (·.1) || (backToKw pos (keywordEach kws X.env)).any (·.1.isNone)) = false := by rfl) :
    PDE X (at0 S0 n0) W (.Call (.Name c p) [] kws pos) (dMake c np G [] (aPick 0 ks.length idx dd aNil dk)) := by
  obtain ⟨f, fd, ps, h1, h2, h3, h4⟩ := C.ex
  exact DL.pd_mkK0 (S := at0 S0 n0) hK ⟨h2.mke, h2.mem⟩ h4 (hr.mono hk) tk hg h1 (h3.at0 (n1 := n0)) hkw hall hks hdb hpl
end
end DL
namespace DL
open PySem PySem.Spec PyProof.Rows L2
section
variable {X : Cx} {S : Sx} {W : WX} {a b e o tg : Expr} {es : List Expr} {da db d : DE} {ds dk : DA} {pos p tpos : Pos} {k : Nat} {m : Str}
/-! ### {} -/
def dDct0 : DE := fun _ μ => .ok (.dct [] []) μ
theorem pd_dct0 : PDE X S W (.Dict [] [] pos) dDct0 := by
  refine ⟨_, pe_dnewK, fun env σ c μ Q I en q => ?_⟩
  refine (show ∀ d, c.H d = none → Q (.ref d) (upd c.H d (.dK [])) from fun d hd => ?_)
  obtain ⟨I2, s2⟩ := I.fresh (o := .dK []) hd
  refine q (.ref d) _ s2 I2 ?_
  unfold rep
  exact ⟨d, [], rfl, upd_same, rfl, .nil⟩
/-! ### over a list, a tuple, a text: whichever it is -/
def itAny (μ : List M) : D → Option (List D × (List M → Prop))
  | .tup l => some (l, fun _ => True)
  | .str z => some (signs z, fun _ => True)
  | x => match seqOf μ x with
    | some l => some (l, fun μ2 => seqOf μ2 x = some l)
    | none => none
def iAny (da : DE) : DI := fun env μ => (da env μ).bind fun x μ1 => match itAny μ1 x with
  | some r => .ok r μ1
  | none => .stuck
theorem PI_or {w1 w2 : TI} (h1 : PI X tg e w1) (h2 : PI X tg e w2) : PI X tg e (fun σ H R => w1 σ H R ∨ w2 σ H R) :=
  ⟨fun pins s σ H R I h => h.elim (h1.run pins s σ H R I) (h2.run pins s σ H R I)⟩
theorem pdi_any (hK : X.K = S.K) (ha : PDE X S W a da) : PDI X S W tg a (iAny da) := by
  obtain ⟨w1, p1, k1⟩ := (pdi_seq (tg := tg) hK ha).ex
  obtain ⟨w2, p2, k2⟩ := (pdi_tup (tg := tg) hK ha).ex
  obtain ⟨w3, p3, k3⟩ := (pdi_str (tg := tg) ha).ex
  refine ⟨_, PI_or p1 (PI_or p2 p3), fun env σ c μ R I en q => ?_⟩
  unfold iAny at q
  have f1 := k1 env σ c μ R I en
  have f2 := k2 env σ c μ R I en
  have f3 := k3 env σ c μ R I en
  unfold iSeq at f1
  unfold iTupD at f2
  unfold iStrD at f3
  cases ed : da env μ with
  | ok x μ1 =>
    rw [ed] at q f1 f2 f3
    have go : ∀ y, x = y → (∀ l, y ≠ .tup l) → (∀ z, y ≠ .str z) → w1 σ c.H R := fun y ey n1 n2 => by
      subst ey
      refine f1 ?_
      cases x with
      | tup l => exact absurd rfl (n1 l)
      | str z => exact absurd rfl (n2 z)
      | _ =>
        all_goals
          first
          | (rename_i u
             have q : IQ S W σ c R (match (match seqOf μ1 _ with | some l => some (l, fun μ2 => seqOf μ2 _ = some l) | none => none) with | some r => .ok r μ1 | none => .stuck) := q
             revert q
             show IQ S W σ c R (match (match seqOf μ1 _ with | some l => some (l, fun μ2 => seqOf μ2 _ = some l) | none => none) with | some r => .ok r μ1 | none => .stuck) → IQ S W σ c R (match seqOf μ1 _ with | some l => _ | none => .stuck)
             cases seqOf μ1 _ with
             | none => exact fun q => q
             | some l => exact fun q => q)
          | exact q
    cases x with
    | tup l => exact .inr (.inl (f2 q))
    | str z => exact .inr (.inr (f3 q))
    | _ => exact .inl (go _ rfl (fun _ z => nomatch z) (fun _ z => nomatch z))
  | ex x ns l μ1 => rw [ed] at q f1; exact .inl (f1 q)
  | stuck => rw [ed] at q; exact q.elim
/-! ### isinstance(x, (A, B)) -/
theorem PA_nilC : PA X [] (fun σ H Q => Q [] H) := pa_nil
theorem PA_consC {x : Str} {vs : List V} (hg : Gl X x) (hm : X.mg x = some (.ref (S.A x))) (hr : PA X es (fun _ H Q => Q vs H)) (hdb : (x == ("__debug__" : Str)) = false := by decide)
    (he : starEach (.Name x p :: es) X.env = (false, eval (.Name x p) X.env) :: starEach es X.env := by rfl) : PA X (.Name x p :: es) (fun _ H Q => Q (V.ref (S.A x) :: vs) H) :=
  pa_cons (pe_glob (v := .ref (S.A x)) hg hm rfl hdb) hr he
/-- the classes of a written tuple -/
structure ClsT (X : Cx) (S : Sx) (es : List Expr) (cs : List Str) : Prop where
  pa : PA X es (fun _ H Q => Q (cs.map fun c => V.ref (S.A c)) H)
theorem clsT_nil : ClsT X S [] [] := ⟨PA_nilC⟩
theorem clsT_cons {x : Str} {cs : List Str} (hg : Gl X x) (hm : X.mg x = some (.ref (S.A x))) (hr : ClsT X S es cs) (hdb : (x == ("__debug__" : Str)) = false := by decide)
    (he : starEach (.Name x p :: es) X.env = (false, eval (.Name x p) X.env) :: starEach es X.env := by rfl) : ClsT X S (.Name x p :: es) (x :: cs) := ⟨PA_consC hg hm hr.pa hdb he⟩
def isSubs (t : Ty) (us : List Str) : Bool := us.any fun u => isSub t (.inr u)
def dIsT (us : List Str) (da : DE) : DE := fun env μ => (da env μ).bind fun x μ1 => match tagOf μ1 x with
  | some t => .ok (.bl (isSubs t us)) μ1
  | none => .stuck
theorem paired_own {us : List Str} : Paired ClsV (us.map fun c => V.ref (S.A c)) (us.map fun u => tyv S (.inr u)) := by
  induction us with
  | nil => exact .nil
  | cons u us ih => exact .cons (.own _) ih
/-! ### in, not in -/
def flatD : D → Bool
  | .non => true | .bl _ => true | .int _ => true | .str _ => true
  | _ => false
def inD (x : D) (l : List D) : Bool := l.any fun y => eqB y x
def opIn (neg : Bool) (μ : List M) (x y : D) : Option D := match x, y with
  | .str i, .str j => some (.bl (if neg then !(!(Builtin.Str.occurrences j i 0 j.length 1).isEmpty) else !(Builtin.Str.occurrences j i 0 j.length 1).isEmpty))
  | x, y => match seqOf μ y with
    | some l => if (flatD x && l.all flatD) = true then some (.bl (if neg then !inD x l else inD x l)) else none
    | none => none
theorem flat_at {io : List Addr} {F : Hp} {d : D} {v : V} (r : rep S io F d v) (h : flatD d = true) : flatV v = true := by
  cases d with
  | non => rw [rep_non.mp r]; rfl
  | bl b => rw [rep_bl.mp r]; rfl
  | int b => rw [rep_int.mp r]; rfl
  | str b => rw [(rep_str.mp r).1]; rfl
  | _ => cases h
theorem flats_at {io : List Addr} {F : Hp} : ∀ {l : List D} {xs : List V}, reps S io F l xs → l.all flatD = true → xs.all flatV = true
  | [], _, r, _ => by rw [r.eq_nil]; rfl
  | d :: l, _, r, h => by
    obtain ⟨x, q, rfl, r1, r2⟩ := r.uncons
    have h := Bool.and_eq_true_iff.mp h
    rw [List.all_cons, flat_at r1 h.1, flats_at r2 h.2]
    rfl
theorem eqV_at {io : List Addr} {F : Hp} {d d' : D} {v v' : V} (r : rep S io F d v) (r' : rep S io F d' v') (h : flatD d = true) (h' : flatD d' = true) : eqV v v' = eqB d d' := by
  cases d with
  | non => rw [rep_non.mp r]; cases d' with
    | non => rw [rep_non.mp r']; unfold eqB; rfl
    | bl b => rw [rep_bl.mp r']; unfold eqB; rfl
    | int b => rw [rep_int.mp r']; unfold eqB; rfl
    | str b => rw [(rep_str.mp r').1]; unfold eqB; rfl
    | _ => cases h'
  | bl a => rw [rep_bl.mp r]; cases d' with
    | non => rw [rep_non.mp r']; unfold eqB; rfl
    | bl b => rw [rep_bl.mp r']; unfold eqB; rfl
    | int b => rw [rep_int.mp r']; unfold eqB; rfl
    | str b => rw [(rep_str.mp r').1]; unfold eqB; rfl
    | _ => cases h'
  | int a => rw [rep_int.mp r]; cases d' with
    | non => rw [rep_non.mp r']; unfold eqB; rfl
    | bl b => rw [rep_bl.mp r']; unfold eqB; rfl
    | int b => rw [rep_int.mp r']; unfold eqB; rfl
    | str b => rw [(rep_str.mp r').1]; unfold eqB; rfl
    | _ => cases h'
  | str a => rw [(rep_str.mp r).1]; cases d' with
    | non => rw [rep_non.mp r']; unfold eqB; rfl
    | bl b => rw [rep_bl.mp r']; unfold eqB; rfl
    | int b => rw [rep_int.mp r']; unfold eqB; rfl
    | str b => rw [(rep_str.mp r').1]; unfold eqB; rfl
    | _ => cases h'
  | _ => cases h
theorem inV_at {io : List Addr} {F : Hp} {d : D} {v : V} (r : rep S io F d v) (h : flatD d = true) : ∀ {l : List D} {xs : List V}, reps S io F l xs → l.all flatD = true → inV v xs = inD d l
  | [], _, rs, _ => by rw [rs.eq_nil]; rfl
  | e :: l, _, rs, hs => by
    obtain ⟨x, q, rfl, r1, r2⟩ := rs.uncons
    have hs := Bool.and_eq_true_iff.mp hs
    unfold inV inD
    rw [List.any_cons, List.any_cons, eqV_at r1 r hs.1 h]
    have := inV_at r h r2 hs.2
    unfold inV inD at this
    rw [this]
theorem po_inG {neg : Bool} {op : CmpOp} (hK : X.K = S.K) (o1 : OpR X (compareOp op) (fun x y H Q => ∃ i j, x = .str i ∧ y = .str j ∧ Q (.bl (if neg then !(!(Builtin.Str.occurrences j i 0 j.length 1).isEmpty) else !(Builtin.Str.occurrences j i 0 j.length 1).isEmpty)) H)) (o2 : OpR X (compareOp op) (rIn X.K neg)) : PDO X S (compareOp op) (opIn neg) := by
  refine ⟨_, or_op o1 o2, fun c μ x y d1 d2 d Q I r1 r2 e k => ?_⟩
  have seq : (match seqOf μ d2 with | some l => if (flatD d1 && l.all flatD) = true then some (D.bl (if neg then !inD d1 l else inD d1 l)) else none | none => none) = some d → rIn X.K neg x y c.H Q := fun e => by
    cases es : seqOf μ d2 with
    | none => rw [es] at e; cases e
    | some l =>
      rw [es] at e
      obtain ⟨p, xs, rfl, h1, h2⟩ := seq_at I r2 es
      dsimp only at e
      by_cases h : (flatD d1 && l.all flatD) = true
      · rw [if_pos h] at e
        obtain rfl := Option.some.inj e
        have h := Bool.and_eq_true_iff.mp h
        refine ⟨p, xs, rfl, by rw [hK]; exact h1, flat_at r1 h.1, flats_at h2 h.2, ?_⟩
        rw [inV_at r1 h.1 h2 h.2]
        exact k _ c I.step I (rep_bl.mpr rfl)
      · rw [if_neg h] at e; cases e
  cases d1 with
  | str i =>
    cases d2 with
    | str j =>
      obtain rfl := Option.some.inj e
      exact .inl ⟨i, j, (rep_str.mp r1).1, (rep_str.mp r2).1, k _ c I.step I (rep_bl.mpr rfl)⟩
    | _ => exact .inr (seq e)
  | _ => exact .inr (seq e)
theorem po_notIn (hK : X.K = S.K) : PDO X S (compareOp .NotIn) (opIn true) := po_inG hK op_notin_str op_notIn_seq
/-! ### more methods of texts -/
/-! ### str(x) of an int, a text, None -/
end
end DL
namespace DL
open PySem PySem.Spec PyProof.Rows L2
section
variable {X : Cx} {S : Sx} {W : WX} {a b e : Expr} {body : List Stmt} {da db d : DE} {ds : DA} {pos p : Pos} {sb : DS}
/-- a try whose body raises nothing -/
def sTryN (b : DS) : DS := fun env μ => match b env μ with
  | .ex _ _ _ _ _ => .stuck
  | o => o
/-- a statement that is not come to -/
def sNever : DS := fun _ _ => .stuck
/-! ### str(x) of an int, a text -/
def bStr2 (_ : List M) : List D → Option D
  | [.int i] => if i.natAbs.log2 < 1920 then some (.str (toString i)) else none
  | [.str z] => some (.str z)
  | [.non] => some (.str "None")
  | _ => none
theorem pb_str2 : PDB X S (.type "str") bStr2 := by
  refine ⟨fun xs H Q => (∃ i, xs = [.int i] ∧ i.natAbs.log2 < 1920 ∧ Q (.str (toString i)) H) ∨ (∃ a, xs = [.str a] ∧ Q (.str a) H) ∨ (xs = [.non] ∧ Q (.str "None") H), ?_, fun c μ xs l d Q I r e k => ?_⟩
  · intro pins s σ H xs us Q I r h
    rcases h with h | h | ⟨rfl, q⟩
    · exact call_str_int pins s σ H xs us Q I r h
    · exact SkE.call_str_str pins s σ H xs us Q I r h
    · obtain ⟨u, rfl, r1⟩ := vals1 r
      cases r1
      exact PySem.P.str_of_none ⟨.str _, H, I.tok _, ⟨_, rfl⟩, q⟩
  · cases l with
    | nil => cases e
    | cons y l =>
      cases l with
      | cons _ _ => cases y <;> cases e
      | nil =>
        obtain ⟨v, r0, rfl, r1, r2⟩ := r.uncons
        rw [r2.eq_nil]
        cases y with
        | int i =>
          have e : (if i.natAbs.log2 < 1920 then some (D.str (toString i)) else none) = some d := e
          by_cases h : i.natAbs.log2 < 1920
          · rw [if_pos h] at e
            obtain rfl := Option.some.inj e
            exact .inl ⟨i, by rw [rep_int.mp r1], h, k _ c I.step I (rep_str.mpr ⟨rfl, okS_of _⟩)⟩
          · rw [if_neg h] at e; cases e
        | str z =>
          obtain rfl := Option.some.inj (show some (D.str z) = some d from e)
          obtain ⟨rfl, hz⟩ := rep_str.mp r1
          exact .inr (.inl ⟨z, rfl, k _ c I.step I (rep_str.mpr ⟨rfl, hz⟩)⟩)
        | non =>
          obtain rfl := Option.some.inj (show some (D.str "None") = some d from e)
          exact .inr (.inr ⟨by rw [rep_non.mp r1], k _ c I.step I (rep_str.mpr ⟨rfl, okS_of _⟩)⟩)
        | _ => cases e
end
end DL
namespace DL
open PySem PySem.Spec PyProof.Rows L2
/-! ### decidable readings of what a class needs -/
theorem nfB_ok {S : Sx} {c : Str} (h : nfB S c = true) : NotF S c := fun t m => List.all_eq_true.mp h t m
theorem neB_ok {S : Sx} {c : Str} (h : neB S c = true) : NeF S c := by
  have h := Bool.and_eq_true_iff.mp h
  exact ⟨He.eqO_ok h.1, of_decide_eq_true h.2⟩
theorem neB_at {S : Sx} {c : Str} {n : Nat} (h : neB S c = true) : NeF (at0 S n) c := ⟨(neB_ok h).ne, (neB_ok h).ob⟩
theorem all_nil {P : Str → Prop} : ∀ x ∈ ([] : List Str), P x := fun _ h => nomatch h
theorem all_cons {P : Str → Prop} {c : Str} {cs : List Str} (h : P c) (t : ∀ x ∈ cs, P x) : ∀ x ∈ c :: cs, P x := fun x m => (List.mem_cons.mp m).elim (fun e => by rw [e]; exact h) (t x)
theorem mkF_of {S : Sx} {c : Str} {f : Addr} (h : c ∈ S.cls) (m : Mk S.K (S.A c) f) : MkF S c f := ⟨m, h⟩
theorem mtF_of {S : Sx} {c m : Str} {f : Addr} (hc : Cls S.K (S.A c)) (hm : Meth S.K (S.A c) m f) : MtF S c m f := ⟨hc, hm⟩
section
variable {X : Cx} {S : Sx} {W : WX} {a b e : Expr} {da db d : DE} {pos p : Pos}
/-! ### xs[::-1] of a list or a text -/
def revA (μ : List M) : D → Option D
  | .str z => if z.length ≤ 100000 then some (.str (revS z)) else none
  | x => (lstOf μ x).map fun l => .lst l.reverse
def dRevA (da : DE) : DE := fun env μ => (da env μ).bind fun x μ1 => match revA μ1 x with
  | some d => .ok d μ1
  | none => .stuck
theorem pd_revA {kk : Nat} {p1 p2 p3 : Pos} (hK : X.K = S.K) (ha : PDE X S W a da) : PDE X S W (.Subscript a (.Slice none none (some (.UnaryOp .USub (.Constant (.int 1) kk p1) p2)) p3) pos) (dRevA da) := by
  obtain ⟨t1, q1, k1⟩ := (pd_rev (kk := kk) (p1 := p1) (p2 := p2) (p3 := p3) (pos := pos) hK ha).ex
  obtain ⟨t2, q2, k2⟩ := (pd_revS (kk := kk) (p1 := p1) (p2 := p2) (p3 := p3) (pos := pos) ha).ex
  refine ⟨fun σ H Q => t1 σ H Q ∨ t2 σ H Q, ⟨fun pins s σ H Q I h => h.elim (q1.run pins s σ H Q I) (q2.run pins s σ H Q I)⟩, fun env σ c μ Q I en q => ?_⟩
  have f1 := k1 env σ c μ Q I en
  have f2 := k2 env σ c μ Q I en
  unfold dRevA at q
  unfold dRev at f1
  unfold dRevS at f2
  cases ed : da env μ with
  | ok x μ1 =>
    rw [ed] at q f1 f2
    have lst : EQ S W σ c Q (match ((lstOf μ1 x).map fun l => D.lst l.reverse) with | some d => .ok d μ1 | none => .stuck) → t1 σ c.H Q := fun q => f1 (by
      revert q
      show EQ S W σ c Q (match ((lstOf μ1 x).map fun l => D.lst l.reverse) with | some d => .ok d μ1 | none => .stuck) → EQ S W σ c Q (match lstOf μ1 x with | some l => .ok (.lst l.reverse) μ1 | none => .stuck)
      cases lstOf μ1 x with
      | none => exact fun q => q
      | some l => exact fun q => q)
    cases x with
    | str z =>
      refine .inr (f2 ?_)
      have q : EQ S W σ c Q (match (if z.length ≤ 100000 then some (D.str (revS z)) else none) with | some d => .ok d μ1 | none => .stuck) := q
      show EQ S W σ c Q (if z.length ≤ 100000 then .ok (.str (revS z)) μ1 else .stuck)
      by_cases h : z.length ≤ 100000
      · rw [if_pos h] at q ⊢; exact q
      · rw [if_neg h] at q; exact q.elim
    | _ => exact .inl (lst q)
  | ex x ns l μ1 => rw [ed] at q f1; exact .inl (f1 q)
  | stuck => rw [ed] at q; exact q.elim
end
end DL
namespace DL
open PySem PySem.Spec PyProof.Rows L2
/-! ### readings of the further denotations -/
section
variable {α β : Type} {X : XP} {N : En → List M → Prop} {R : D → List M → Prop} {B C : En → List M → Prop} {Z : Str → List Str → List D → En → List M → Prop} {ks : Ks N R B C Z} {env : En} {μ : List M} {Q : D → List M → Prop} {k : Kt Q X}
theorem wo_cong {Q Q' : α → List M → Prop} {k : Kt Q X} {k' : Kt Q' X} {o : Out α} (h : ∀ x m, Q x m = Q' x m) : WO o Q X k = WO o Q' X k' := by
  cases o with
  | ok a m => exact h a m
  | ex _ _ _ _ => rfl
  | stuck => rfl
theorem w_dct0 : WO (dDct0 env μ) Q X k = Q (.dct [] []) μ := id rfl
/-! o.m(..) -/
def isC (c m : Str) (μ : List M) (x : D) : Prop := clsAt μ x = some c ∧ (fldAt μ m x).isNone = true
theorem w_meth {c m : Str} {np : Nat} {G : GF} {dd : List D} {da : DE} {ds : DA} : WO (dMeth c m np G dd da ds env μ) Q X k = WO (da env μ) (fun x m1 => isC c m m1 x ∧ WO (ds env m1) (fun l m2 => (x :: (l ++ dd)).length = np ∧ WO (G (x :: (l ++ dd)) m2) Q X ⟨⟩) X ⟨⟩) X ⟨⟩ := by
  unfold dMeth
  rw [w_bind]
  refine wo_cong fun x m1 => ?_
  by_cases h : clsAt m1 x = some c ∧ (fldAt m1 m x).isNone = true
  · rw [if_pos h, w_bind]
    refine Eq.trans (wo_cong (Q' := fun l m2 => (x :: (l ++ dd)).length = np ∧ WO (G (x :: (l ++ dd)) m2) Q X ⟨⟩) fun l m2 => ?_) (propext ⟨fun q => ⟨h, q⟩, fun q => q.2⟩)
    by_cases hl : (x :: (l ++ dd)).length = np
    · rw [if_pos hl]; exact propext ⟨fun q => ⟨hl, q⟩, fun q => q.2⟩
    · rw [if_neg hl]; exact propext ⟨fun q => q.elim, fun q => absurd q.1 hl⟩
  · rw [if_neg h]
    exact propext ⟨fun q => q.elim, fun q => absurd q.1 h⟩
theorem isC_obj {c m : Str} {ns : List Str} {l : List D} : isC c m μ (.obj c ns l) = ((fldOf m ns l).isNone = true) := propext ⟨fun h => h.2, fun h => ⟨rfl, h⟩⟩
/-! C(..) -/
def makeD (c : Str) (np : Nat) (G : GF) (l : List D) (μ1 : List M) : Out D := if l.length + 1 = np then match G (.cel μ1.length :: l) (μ1 ++ [.obj c [] []]) with
    | .ok .non μ2 => match finD μ1.length μ2 (.cel μ1.length) with
      | some (d, μ3) => .ok d μ3
      | none => .stuck
    | .ok _ _ => .stuck
    | .ex x ns l' μ2 => match finL μ1.length μ2 l' with
      | some (l2, μ3) => .ex x ns l2 μ3
      | none => .stuck
    | .stuck => .stuck
  else .stuck
theorem w_make {c : Str} {np : Nat} {G : GF} {dd : List D} {ds : DA} : WO (dMake c np G dd ds env μ) Q X k = WO (ds env μ) (fun l m => WO (makeD c np G (l ++ dd) m) Q X ⟨⟩) X ⟨⟩ := w_bind
theorem w_pick {n m : Nat} {idx : List Nat} {dd : List D} {ds dk : DA} {Q : List D → List M → Prop} {k : Kt Q X} : WO (aPick n m idx dd ds dk env μ) Q X k = WO (ds env μ) (fun l m1 => WO (dk env m1) (fun z m2 => (l.length = n ∧ z.length = m) ∧ Q (pick idx (l ++ (z ++ dd))) m2) X ⟨⟩) X ⟨⟩ := by
  unfold aPick
  rw [w_bind]
  refine wo_cong fun l m1 => ?_
  rw [w_bind]
  refine wo_cong fun z m2 => ?_
  by_cases h : l.length = n ∧ z.length = m
  · rw [if_pos h]; exact propext ⟨fun q => ⟨h, q⟩, fun q => q.2⟩
  · rw [if_neg h]; exact propext ⟨fun q => q.elim, fun q => absurd q.1 h⟩
theorem pick_cons {α : Type} {i : Nat} {is : List Nat} {xs : List α} : pick (i :: is) xs = match xs[i]? with | some x => x :: pick is xs | none => pick is xs := by
  unfold pick
  rw [List.filterMap_cons]
  cases xs[i]? <;> rfl
theorem pick_nil {α : Type} {xs : List α} : pick [] xs = [] := id rfl
/-! x == y, x != y of an own class -/
theorem w_own {c : Str} {G : GF} {da db : DE} : WO (dOwn c G da db env μ) Q X k = WO (da env μ) (fun x m1 => WO (db env m1) (fun y m2 => (clsAt m2 x = some c ∧ (tagOf m2 y).isSome = true) ∧ WO (G [x, y] m2) (fun r m3 => OP (isB r) (fun b => Q (.bl b) m3) ⟨⟩) X ⟨⟩) X ⟨⟩) X ⟨⟩ := by
  unfold dOwn
  rw [w_bind]
  refine wo_cong fun x m1 => ?_
  rw [w_bind]
  refine wo_cong fun y m2 => ?_
  by_cases h : clsAt m2 x = some c ∧ (tagOf m2 y).isSome = true
  · rw [if_pos h, w_bind]
    refine Eq.trans (wo_cong (Q' := fun r m3 => OP (isB r) (fun b => Q (.bl b) m3) ⟨⟩) fun r m3 => ?_) (propext ⟨fun q => ⟨h, q⟩, fun q => q.2⟩)
    cases r <;> rfl
  · rw [if_neg h]; exact propext ⟨fun q => q.elim, fun q => absurd q.1 h⟩
theorem w_ne {c : Str} {G : GF} {da db : DE} : WO (dNe c G da db env μ) Q X k = WO (da env μ) (fun x m1 => WO (db env m1) (fun y m2 => (clsAt m2 x = some c ∧ (tagOf m2 y).isSome = true) ∧ WO (G [x, y] m2) (fun r m3 => OP (isB r) (fun b => Q (.bl (!b)) m3) ⟨⟩) X ⟨⟩) X ⟨⟩) X ⟨⟩ := by
  unfold dNe
  rw [w_bind]
  refine wo_cong fun x m1 => ?_
  rw [w_bind]
  refine wo_cong fun y m2 => ?_
  by_cases h : clsAt m2 x = some c ∧ (tagOf m2 y).isSome = true
  · rw [if_pos h, w_bind]
    refine Eq.trans (wo_cong (Q' := fun r m3 => OP (isB r) (fun b => Q (.bl (!b)) m3) ⟨⟩) fun r m3 => ?_) (propext ⟨fun q => ⟨h, q⟩, fun q => q.2⟩)
    cases r <;> rfl
  · rw [if_neg h]; exact propext ⟨fun q => q.elim, fun q => absurd q.1 h⟩
/-! str(x), repr(x), f'{x}' -/
theorem w_obS {c : Str} {G : GF} {da : DE} : WO (dObS c G da env μ) Q X k = WO (da env μ) (fun x m1 => clsAt m1 x = some c ∧ WO (G [x] m1) (fun r m3 => OP (isS r) (fun z => Q (.str z) m3) ⟨⟩) X ⟨⟩) X ⟨⟩ := by
  unfold dObS
  rw [w_bind]
  refine wo_cong fun x m1 => ?_
  by_cases h : clsAt m1 x = some c
  · rw [if_pos h, w_bind]
    refine Eq.trans (wo_cong (Q' := fun r m3 => OP (isS r) (fun z => Q (.str z) m3) ⟨⟩) fun r m3 => ?_) (propext ⟨fun q => ⟨h, q⟩, fun q => q.2⟩)
    cases r <;> rfl
  · rw [if_neg h]; exact propext ⟨fun q => q.elim, fun q => absurd q.1 h⟩
theorem cls_obj {c : Str} {ns : List Str} {l : List D} : clsAt μ (.obj c ns l) = some c := id rfl
theorem fld_obj {c f : Str} {ns : List Str} {l : List D} : fldAt μ f (.obj c ns l) = fldOf f ns l := id rfl
theorem w_fmt {da : DE} : WO (dFmt da env μ) Q X k = WO (da env μ) (fun x m1 => OP (fmtS x) (fun z => Q (.str z) m1) ⟨⟩) X ⟨⟩ := by
  unfold dFmt
  rw [w_bind]
  refine wo_cong fun x m1 => ?_
  cases fmtS x <;> rfl
theorem w_fs {ds : List DE} : WO (dFs ds env μ) Q X k = WO (fsGo ds Str.empty env μ) Q X ⟨⟩ := id rfl
theorem w_fsNil {acc : Str} : WO (fsGo [] acc env μ) Q X k = Q (.str acc) μ := id rfl
theorem w_fsCons {d : DE} {ds : List DE} {acc : Str} : WO (fsGo (d :: ds) acc env μ) Q X k = WO (d env μ) (fun x m1 => OP (isS x) (fun y => (acc ++ y).length ≤ 100000 ∧ WO (fsGo ds (acc ++ y) env m1) Q X ⟨⟩) ⟨⟩) X ⟨⟩ := by
  show WO ((d env μ).bind _) Q X k = _
  rw [w_bind]
  refine wo_cong fun x m1 => ?_
  cases x with
  | str y =>
    show WO (if (acc ++ y).length ≤ 100000 then fsGo ds (acc ++ y) env m1 else .stuck) Q X ⟨⟩ = ((acc ++ y).length ≤ 100000 ∧ WO (fsGo ds (acc ++ y) env m1) Q X ⟨⟩)
    by_cases h : (acc ++ y).length ≤ 100000
    · rw [if_pos h]; exact propext ⟨fun q => ⟨h, q⟩, fun q => q.2⟩
    · rw [if_neg h]; exact propext ⟨fun q => q.elim, fun q => absurd q.1 h⟩
  | _ => rfl
/-! others -/
theorem w_isT {us : List Str} {da : DE} : WO (dIsT us da env μ) Q X k = WO (da env μ) (fun x m1 => OP (tagOf m1 x) (fun t => Q (.bl (isSubs t us)) m1) ⟨⟩) X ⟨⟩ := by
  unfold dIsT
  rw [w_bind]
  refine wo_cong fun x m1 => ?_
  cases tagOf m1 x <;> rfl
theorem w_revA {da : DE} : WO (dRevA da env μ) Q X k = WO (da env μ) (fun x m1 => OP (revA m1 x) (fun d => Q d m1) ⟨⟩) X ⟨⟩ := by
  unfold dRevA
  rw [w_bind]
  refine wo_cong fun x m1 => ?_
  cases revA m1 x <;> rfl
theorem i_any {da : DE} {Q : List D × (List M → Prop) → List M → Prop} {k : Kt Q X} : WO (iAny da env μ) Q X k = WO (da env μ) (fun x m1 => OP (itAny m1 x) (fun r => Q r m1) ⟨⟩) X ⟨⟩ := by
  unfold iAny
  rw [w_bind]
  refine wo_cong fun x m1 => ?_
  cases itAny m1 x <;> rfl
theorem ia_tup {l : List D} : itAny μ (.tup l) = some (l, fun _ => True) := id rfl
theorem ia_str {z : Str} : itAny μ (.str z) = some (signs z, fun _ => True) := id rfl
theorem ia_lst {l : List D} : itAny μ (.lst l) = some (l, fun _ => True) := by
  have e : (fun μ2 : List M => seqOf μ2 (.lst l) = some l) = fun _ => True := funext fun _ => eq_true rfl
  show (some (l, fun μ2 : List M => seqOf μ2 (.lst l) = some l) : Option (List D × (List M → Prop))) = _
  rw [e]
theorem ia_scr {ns : List Int} : itAny μ (.scr ns) = some (ns.map D.int, fun _ => True) := by
  have e : (fun μ2 : List M => seqOf μ2 (.scr ns) = some (ns.map D.int)) = fun _ => True := funext fun _ => eq_true rfl
  show (some (ns.map D.int, fun μ2 : List M => seqOf μ2 (.scr ns) = some (ns.map D.int)) : Option (List D × (List M → Prop))) = _
  rw [e]
theorem ia_cel {i : Nat} : itAny μ (.cel i) = (cellL μ[i]?).map fun l => (l, fun μ2 => cellL μ2[i]? = some l) := by
  show (match seqOf μ (.cel i) with | some l => some (l, fun μ2 => seqOf μ2 (.cel i) = some l) | none => none) = _
  rw [c_seq]
  cases cellL μ[i]? with
  | none => rfl
  | some l =>
    show some (l, fun μ2 : List M => seqOf μ2 (.cel i) = some l) = some (l, fun μ2 => cellL μ2[i]? = some l)
    have e2 : (fun μ2 : List M => seqOf μ2 (.cel i) = some l) = fun μ2 => cellL μ2[i]? = some l := funext fun μ2 => by rw [c_seq]
    rw [e2]
theorem w_m0 {g : List M → Str → List D → Option D} {a : DE} : WO (dM0 g a env μ) Q X k = WO (a env μ) (fun x m => OP (isS x) (fun z => OP (g m z []) (fun d => Q d m) ⟨⟩) ⟨⟩) X ⟨⟩ := by
  unfold dM0
  rw [w_bind]
  refine wo_cong fun x m => ?_
  cases x with
  | str z =>
    show WO (match g m z [] with | some d => .ok d m | none => .stuck) Q X ⟨⟩ = OP (g m z []) _ ⟨⟩
    cases g m z [] <;> rfl
  | _ => rfl
def gloOf : Option (Option D) → Option Str
  | some (some (.glo y)) => some y
  | _ => none
theorem gl_glo {y : Str} : gloOf (some (some (.glo y))) = some y := id rfl
def candOf (y : Str) : List (Str × Nat × GF) → Option (Nat × GF)
  | [] => none
  | (x, np, G) :: cs => if y = x then some (np, G) else candOf y cs
theorem w_callA {i : Nat} {ds : DA} {cs : List (Str × Nat × GF)} : WO (dCallA i ds cs env μ) Q X k = OP ((gloOf env[i]?).bind fun y => candOf y cs) (fun c => WO (ds env μ) (fun l m => l.length = c.1 ∧ WO (c.2 l m) Q X ⟨⟩) X ⟨⟩) ⟨⟩ := by
  induction cs with
  | nil => cases gloOf env[i]? <;> rfl
  | cons c cs ih =>
    obtain ⟨x, np, G⟩ := c
    show WO (match env[i]?.join with | some (.glo y) => if y = x then (ds env μ).bind fun l μ1 => if l.length = np then G l μ1 else .stuck else dCallA i ds cs env μ | _ => .stuck) Q X k = _
    cases e : env[i]? with
    | none => rfl
    | some o =>
      cases o with
      | none => rfl
      | some d =>
        rw [e] at ih
        cases d with
        | glo y =>
          show WO (if y = x then (ds env μ).bind fun l μ1 => if l.length = np then G l μ1 else .stuck else dCallA i ds cs env μ) Q X k = OP (if y = x then some (np, G) else candOf y cs) _ ⟨⟩
          by_cases h : y = x
          · rw [if_pos h, if_pos h, w_bind]
            show WO (ds env μ) _ X ⟨⟩ = WO (ds env μ) _ X ⟨⟩
            refine wo_cong fun l m => ?_
            by_cases hl : l.length = np
            · rw [if_pos hl]; exact propext ⟨fun q => ⟨hl, q⟩, fun q => q.2⟩
            · rw [if_neg hl]; exact propext ⟨fun q => q.elim, fun q => absurd q.1 hl⟩
          · rw [if_neg h, if_neg h]
            exact ih
        | _ => rfl
/-! statements -/
theorem s_tryN {b : DS} : WS (sTryN b env μ) N R B C Z ks = WS (b env μ) N R B C (fun _ _ _ _ _ => False) ⟨⟩ := by
  unfold sTryN
  cases b env μ <;> rfl
theorem s_never : WS (sNever env μ) N R B C Z ks = False := id rfl
def celO (m : List M) : D → Option (Nat × Str × List Str × List D)
  | .cel i => match m[i]? with
    | some (.obj c ns l) => some (i, c, ns, l)
    | _ => none
  | _ => none
theorem co_cel {i : Nat} {c : Str} {ns : List Str} {l : List D} (h : μ[i]? = some (.obj c ns l)) : celO μ (.cel i) = some (i, c, ns, l) := by
  show (match μ[i]? with | some (.obj c ns l) => some (i, c, ns, l) | _ => none) = _
  rw [h]
theorem s_fld {f : Str} {da de : DE} : WS (sFldSet f da de env μ) N R B C Z ks = WO (de env μ) (fun y m1 => WO (da env m1) (fun x m2 => OP (celO m2 x) (fun o => o.2.2.1.length < 1000 ∧ N env (m2.set o.1 (.obj o.2.1 (putD f y o.2.2.1 o.2.2.2).1 (putD f y o.2.2.1 o.2.2.2).2))) ⟨⟩) (fun c ns l m => Z c ns l env m) ⟨⟩) (fun c ns l m => Z c ns l env m) ⟨⟩ := by
  unfold sFldSet
  rw [w_bindS]
  refine wo_cong fun y m1 => ?_
  rw [w_bindS]
  refine wo_cong fun x m2 => ?_
  cases x with
  | cel i =>
    show WS (match m2[i]? with | some (.obj c ns l) => (if ns.length < 1000 then .nx env (m2.set i (.obj c (putD f y ns l).1 (putD f y ns l).2)) else .stuck) | _ => .stuck) N R B C Z ⟨⟩ = OP (match m2[i]? with | some (.obj c ns l) => some (i, c, ns, l) | _ => none) _ ⟨⟩
    cases m2[i]? with
    | none => rfl
    | some o =>
      cases o with
      | obj c ns l =>
        show WS (if ns.length < 1000 then _ else _) N R B C Z ⟨⟩ = (ns.length < 1000 ∧ _)
        by_cases h : ns.length < 1000
        · rw [if_pos h]; exact propext ⟨fun q => ⟨h, q⟩, fun q => q.2⟩
        · rw [if_neg h]; exact propext ⟨fun q => q.elim, fun q => absurd q.1 h⟩
      | _ => rfl
  | _ => rfl
theorem w_listN {ds : DA} {Q : List D → List M → Prop} {k : Kt Q X} : WO (dListN ds env μ) Q X k = WO (ds env μ) (fun l m => OP (match l with | [x] => seqOf m x | _ => none) (fun l' => Q l' m) ⟨⟩) X ⟨⟩ := by
  unfold dListN
  rw [w_bind]
  refine wo_cong fun l m => ?_
  match l with
  | [] => rfl
  | [x] =>
    show WO (match seqOf m x with | some l => .ok l m | none => .stuck) Q X ⟨⟩ = OP (seqOf m x) _ ⟨⟩
    cases seqOf m x <;> rfl
  | _ :: _ :: _ => rfl
/-! targets -/
theorem g_seq {n : Nat} {gs : List D → En → List M → Option En} {d : D} : gSeq n gs d env μ = (seqOf μ d).bind fun l => if l.length = n then gs l env μ else none := by
  show (match seqOf μ d with | some l => if l.length = n then gs l env μ else none | none => none) = _
  cases seqOf μ d <;> rfl
theorem g_cons {g : DG} {gs : List D → En → List M → Option En} {d : D} {l : List D} : gsCons g gs (d :: l) env μ = (g d env μ).bind fun e => gs l e μ := by
  show (match g d env μ with | some env1 => gs l env1 μ | none => none) = _
  cases g d env μ <;> rfl
theorem g_nil : gsNil [] env μ = some env := id rfl
theorem g_nm {i : Nat} {d : D} : gNm i d env μ = some (env.set i (some d)) := id rfl
/-! what a def comes to, said by an equation -/
theorem eq_ok {o : Out D} {d : D} {m : List M} (h : WO o (fun x m' => x = d ∧ m' = m) xNo ⟨⟩) : o = .ok d m := by
  obtain ⟨x, m', e, rfl, rfl⟩ := h.ex_
  exact e
theorem eq_ex {o : Out D} {c : Str} {ns : List Str} {l : List D} {m : List M} (h : WO o (fun _ _ => False) (fun c' ns' l' m' => c' = c ∧ ns' = ns ∧ l' = l ∧ m' = m) ⟨⟩) : o = .ex c ns l m := by
  cases o with
  | ok a m' => exact False.elim h
  | ex c' ns' l' m' =>
    obtain ⟨rfl, rfl, rfl, rfl⟩ := h
    rfl
  | stuck => exact False.elim h
end
end DL
namespace DL
open PySem PySem.Spec PyProof.Rows L2
section
variable {X : XP} {N : En → List M → Prop} {R : D → List M → Prop} {B C : En → List M → Prop} {Z : Str → List Str → List D → En → List M → Prop} {ks : Ks N R B C Z} {env : En} {m : List M} {g : List M → Prop} {tg : DG} {body : DS} {tt : DT} {el : DE}
theorem s_forNil : WS (forGo g tg body [] env m) N R B C Z ks = (g m ∧ N env m) := by
  rw [forGo]
  by_cases h : g m
  · rw [guard_of h, if_pos rfl]
    exact propext ⟨fun q => ⟨h, q⟩, fun q => q.2⟩
  · have e : guard g m = false := by
      cases e : guard g m with
      | false => rfl
      | true => exact absurd (guard_iff.mp e) h
    rw [e, if_neg Bool.false_ne_true]
    exact propext ⟨fun q => q.elim, fun q => absurd q.1 h⟩
theorem s_forCons {x : D} {xs : List D} : WS (forGo g tg body (x :: xs) env m) N R B C Z ks = (g m ∧ OP (tg x env m) (fun e1 => WS (body e1 m) (fun e m => WS (forGo g tg body xs e m) N R B C Z ⟨⟩) R N (fun e m => WS (forGo g tg body xs e m) N R B C Z ⟨⟩) Z ⟨⟩) ⟨⟩) := by
  rw [forGo]
  by_cases h : g m
  · rw [guard_of h, if_pos rfl]
    have e0 : (g m ∧ OP (tg x env m) (fun e1 => WS (body e1 m) (fun e m => WS (forGo g tg body xs e m) N R B C Z ⟨⟩) R N (fun e m => WS (forGo g tg body xs e m) N R B C Z ⟨⟩) Z ⟨⟩) ⟨⟩) = OP (tg x env m) (fun e1 => WS (body e1 m) (fun e m => WS (forGo g tg body xs e m) N R B C Z ⟨⟩) R N (fun e m => WS (forGo g tg body xs e m) N R B C Z ⟨⟩) Z ⟨⟩) ⟨⟩ := propext ⟨fun q => q.2, fun q => ⟨h, q⟩⟩
    rw [e0]
    cases tg x env m with
    | none => rfl
    | some e1 =>
      show WS (match body e1 m with | .nx e m => forGo g tg body xs e m | .ct e m => forGo g tg body xs e m | .bk e m => .nx e m | o => o) N R B C Z ks = WS (body e1 m) _ R N _ Z ⟨⟩
      cases body e1 m <;> rfl
  · have e : guard g m = false := by
      cases e : guard g m with
      | false => rfl
      | true => exact absurd (guard_iff.mp e) h
    rw [e, if_neg Bool.false_ne_true]
    exact propext ⟨fun q => q.elim, fun q => absurd q.1 h⟩
/-- a comprehension whose parts change nothing -/
theorem lc_pure {env0 : En} (t : D → Bool) (f : D → D) (hg : g m) : ∀ (l acc : List D), (∀ x ∈ l, ∃ e1, tg x env0 m = some e1 ∧ tt e1 m = .ok (t x) m ∧ (t x = true → el e1 m = .ok (f x) m)) → acc.length + l.length ≤ 100000 →
    lcGo g tg tt el env0 l m acc = .ok (acc ++ (l.filter t).map f) m
  | [], acc, _, _ => by
    rw [lcGo, guard_of hg, if_pos rfl, List.filter_nil, List.map_nil, List.append_nil]
  | x :: xs, acc, h, hl => by
    obtain ⟨e1, h1, h2, h3⟩ := h x List.mem_cons_self
    rw [List.length_cons] at hl
    rw [lcGo, guard_of hg, if_pos rfl, h1]
    dsimp only
    rw [h2]
    dsimp only
    cases ht : t x with
    | true =>
      rw [if_pos rfl, h3 ht]
      dsimp only
      rw [if_pos (by omega), lc_pure t f hg xs (acc ++ [f x]) (fun y hy => h y (List.mem_cons_of_mem _ hy)) (by rw [List.length_append]; show acc.length + 1 + _ ≤ _; omega), List.filter_cons, ht, if_pos rfl, List.map_cons, List.append_assoc]
      rfl
    | false =>
      rw [if_neg Bool.false_ne_true, lc_pure t f hg xs acc (fun y hy => h y (List.mem_cons_of_mem _ hy)) (by omega), List.filter_cons, ht, if_neg Bool.false_ne_true]
theorem lc_map {env0 : En} (f : D → D) (hg : g m) (l : List D) (h : ∀ x ∈ l, ∃ e1, tg x env0 m = some e1 ∧ el e1 m = .ok (f x) m) (hl : l.length ≤ 100000) :
    lcGo g tg tYes' el env0 l m [] = .ok (l.map f) m := by
  rw [lc_pure (fun _ => true) f hg l [] (fun x hx => by
    obtain ⟨e1, h1, h2⟩ := h x hx
    exact ⟨e1, h1, rfl, fun _ => h2⟩) (by show 0 + l.length ≤ _; omega), List.nil_append]
  congr 2
  exact List.filter_eq_self.mpr fun _ _ => rfl
theorem w_lcNil {env0 : En} {acc : List D} {Q : List D → List M → Prop} {k : Kt Q X} : WO (lcGo g tg tt el env0 [] m acc) Q X k = (g m ∧ Q acc m) := by
  rw [lcGo]
  by_cases h : g m
  · rw [guard_of h, if_pos rfl]
    exact propext ⟨fun q => ⟨h, q⟩, fun q => q.2⟩
  · have e : guard g m = false := by
      cases e : guard g m with
      | false => rfl
      | true => exact absurd (guard_iff.mp e) h
    rw [e, if_neg Bool.false_ne_true]
    exact propext ⟨fun q => q.elim, fun q => absurd q.1 h⟩
theorem w_lcCons {env0 : En} {x : D} {xs acc : List D} {Q : List D → List M → Prop} {k : Kt Q X} : WO (lcGo g tg tt el env0 (x :: xs) m acc) Q X k = (g m ∧ OP (tg x env0 m) (fun e1 => WO (tt e1 m) (fun c m2 => if c = true then WO (el e1 m2) (fun y m3 => acc.length < 100000 ∧ WO (lcGo g tg tt el env0 xs m3 (acc ++ [y])) Q X ⟨⟩) xNo ⟨⟩ else WO (lcGo g tg tt el env0 xs m2 acc) Q X ⟨⟩) xNo ⟨⟩) ⟨⟩) := by
  rw [lcGo]
  by_cases h : g m
  · rw [guard_of h, if_pos rfl]
    refine Eq.trans ?_ (propext (⟨fun q => ⟨h, q⟩, fun q => q.2⟩ : OP (tg x env0 m) (fun e1 => WO (tt e1 m) (fun c m2 => if c = true then WO (el e1 m2) (fun y m3 => acc.length < 100000 ∧ WO (lcGo g tg tt el env0 xs m3 (acc ++ [y])) Q X ⟨⟩) xNo ⟨⟩ else WO (lcGo g tg tt el env0 xs m2 acc) Q X ⟨⟩) xNo ⟨⟩) ⟨⟩ ↔ _))
    cases tg x env0 m with
    | none => rfl
    | some e1 =>
      show WO (match tt e1 m with | .ok b μ1 => (if b = true then (match el e1 μ1 with | .ok y μ2 => if acc.length < 100000 then lcGo g tg tt el env0 xs μ2 (acc ++ [y]) else .stuck | _ => .stuck) else lcGo g tg tt el env0 xs μ1 acc) | _ => .stuck) Q X k = WO (tt e1 m) _ xNo ⟨⟩
      cases tt e1 m with
      | ok b μ1 =>
        cases b with
        | true =>
          show WO (match el e1 μ1 with | .ok y μ2 => if acc.length < 100000 then lcGo g tg tt el env0 xs μ2 (acc ++ [y]) else .stuck | _ => .stuck) Q X k = WO (el e1 μ1) _ xNo ⟨⟩
          cases el e1 μ1 with
          | ok y μ2 =>
            show WO (if acc.length < 100000 then _ else _) Q X k = (acc.length < 100000 ∧ _)
            by_cases h : acc.length < 100000
            · rw [if_pos h]; exact propext ⟨fun q => ⟨h, q⟩, fun q => q.2⟩
            · rw [if_neg h]; exact propext ⟨fun q => q.elim, fun q => absurd q.1 h⟩
          | ex _ _ _ _ => rfl
          | stuck => rfl
        | false => rfl
      | ex _ _ _ _ => rfl
      | stuck => rfl
  · have e : guard g m = false := by
      cases e : guard g m with
      | false => rfl
      | true => exact absurd (guard_iff.mp e) h
    rw [e, if_neg Bool.false_ne_true]
    exact propext ⟨fun q => q.elim, fun q => absurd q.1 h⟩
theorem t_yes {Q : Bool → List M → Prop} {k : Kt Q X} : WO (tYes' env m) Q X k = Q true m := id rfl
theorem wipe_cons {v : Nat} {vs : List Nat} : wipeE env (v :: vs) = (wipeE env vs).set v none := id rfl
theorem wipe_nil : wipeE env [] = env := id rfl
end
/-! ### a making, by what __init__ comes to -/
theorem makeD_ok {c : Str} {np : Nat} {G : GF} {l : List D} {m : List M} {ns : List Str} {fs : List D} (hc : Cln m) (hn : l.length + 1 = np) (hf : cleans 0 fs = true) (h : G (.cel m.length :: l) (m ++ [M.obj c [] []]) = .ok .non (m ++ [M.obj c ns fs])) : makeD c np G l m = .ok (.obj c ns fs) m := by
  have e1 : (m ++ [M.obj c ns fs]).take m.length = m := List.take_left
  have e2 : subMs m.length (rsv m.length (m ++ [M.obj c ns fs]) 20) m = some m := subMs_clean m (by
    have := hc.all (n := m.length) (k := m.length)
    rwa [List.take_length] at this)
  have e3 : sub m.length (rsv m.length (m ++ [M.obj c ns fs]) 20) (.cel m.length) = some (.obj c ns fs) := by
    show (if m.length < m.length then some (D.cel m.length) else rsv m.length (m ++ [M.obj c ns fs]) 20 m.length) = _
    rw [if_neg (Nat.lt_irrefl _)]
    show rsv m.length (m ++ [M.obj c ns fs]) (19 + 1) m.length = _
    unfold rsv
    rw [List.getElem?_concat_length]
    show (subs m.length (rsv m.length (m ++ [M.obj c ns fs]) 19) fs).map (D.obj c ns) = _
    rw [subs_clean fs (cleans_up fs hf)]
    rfl
  unfold makeD
  rw [if_pos hn, h]
  show (match finD m.length (m ++ [M.obj c ns fs]) (.cel m.length) with | some (d, μ3) => Out.ok d μ3 | none => .stuck) = _
  unfold finD
  rw [e3, e1, e2]
theorem makeD_ex {c x : Str} {np : Nat} {G : GF} {l : List D} {m : List M} (hc : Cln m) (hn : l.length + 1 = np) (h : G (.cel m.length :: l) (m ++ [M.obj c [] []]) = .ex x [] [] (m ++ [M.obj c [] []])) : makeD c np G l m = .ex x [] [] m := by
  have e1 : (m ++ [M.obj c [] []]).take m.length = m := List.take_left
  have e2 : subMs m.length (rsv m.length (m ++ [M.obj c [] []]) 20) m = some m := subMs_clean m (by
    have := hc.all (n := m.length) (k := m.length)
    rwa [List.take_length] at this)
  unfold makeD
  rw [if_pos hn, h]
  show (match finL m.length (m ++ [M.obj c [] []]) [] with | some (l2, μ3) => Out.ex x [] l2 μ3 | none => .stuck) = _
  unfold finL
  rw [show subs m.length (rsv m.length (m ++ [M.obj c [] []]) 20) [] = some [] from rfl, e1, e2]
/-! ### plain data: equality, cleanliness, by parts -/
section
variable {m : List M} {i j : Int} {x y : Str} {b c : Bool} {l l' : List D} {d e : D} {n : Nat}
theorem nn_non : isNon .non = true := id rfl
theorem nn_int : isNon (.int i) = false := id rfl
theorem nn_str : isNon (.str x) = false := id rfl
theorem nn_bl : isNon (.bl b) = false := id rfl
theorem nn_tup : isNon (.tup l) = false := id rfl
theorem nn_lst : isNon (.lst l) = false := id rfl
end
end DL
namespace DL
open PySem PySem.Spec PyProof.Rows L2
end DL
namespace DL
open PySem PySem.Spec PyProof.Rows L2
end DL
namespace DL
open PySem PySem.Spec PyProof.Rows L2
section
variable {X : Cx} {S : Sx} {W : WX} {pos : Pos}
/-! ### a module's tuple of texts -/
structure TupF (S : Sx) (x : Str) (l : List D) : Prop where
  ex : ∃ xs : List V, (∀ H : Hp, SqT S.K H (S.A x) xs) ∧ ∀ io F, reps S io F l xs
theorem pd_gtup {x : Str} {l : List D} (hg : Gl X x) (hm : X.mg x = some (.ref (S.A x))) (ht : TupF S x l) (hdb : (x == ("__debug__" : Str)) = false := by decide) : PDE X S W (.Name x pos) (dC (.tup l)) := by
  obtain ⟨xs, h1, h2⟩ := ht.ex
  exact of_tC (v := .ref (S.A x)) (pe_glob hg hm rfl hdb) fun _ _ => by
    unfold rep
    exact ⟨_, xs, rfl, h1 _, h2 _ _⟩
theorem reps_txts {io : List Addr} {F : Hp} : ∀ l : List Str, l.all okS = true → reps S io F (l.map D.str) (l.map V.str)
  | [], _ => .nil
  | z :: l, h => by
    obtain ⟨h1, h2⟩ := Bool.and_eq_true_iff.mp (show (okS z && l.all okS) = true from h)
    exact .cons (rep_str.mpr ⟨rfl, h1⟩) (reps_txts l h2)
theorem tupF_of {K : PySem.W.Frag} {x : Str} {cls : List Str} {l : List Str} {n : Nat} (h : He.tupB K x (l.map He.Dv.str) = true) (ho : l.all okS = true) : TupF (at0 ⟨K, He.ga K, 0, [], cls⟩ n) x (l.map D.str) := by
  have e := fun H => He.tupB_ok h H
  rw [List.map_map] at e
  exact ⟨l.map V.str, e, fun _ _ => reps_txts l ho⟩
end
end DL
/-! ### where a token is out: x.replace(y, z) -/
namespace DL
open PySem PySem.Spec PyProof.Rows L2
section
variable {X : Cx} {S S0 : Sx} {W : WX} {md : Bool} {n : Nat} {e o tg : Expr} {es : List Expr} {d da : DE} {ds : DA} {dg : DG} {s1 s2 : DS} {st : Stmt} {rest : List Stmt} {pos p apos : Pos} {js : List Nat} {k kr np j : Nat} {x c : Str} {f : Addr} {fd : FuncData} {ps : List Str} {G : GF} {dfl dd : List D}
/-- x.replace(y, z) of written texts -/
def repD (y z : Str) (x : Str) : Option D := if x.length + (x.length + 1) * z.length ≤ 100000 ∧ okS (Txt.replace x y z) = true then some (.str (Txt.replace x y z)) else none
def dRep (y z : Str) (da : DE) : DE := fun env μ => (da env μ).bind fun x μ1 => match x with
  | .str x => match repD y z x with
    | some d => .ok d μ1
    | none => .stuck
  | _ => .stuck
/-! calls, makings with such an argument -/
/-! statements -/
end
end DL
/-! ### list * int -/
namespace DL
open PySem PySem.Spec PyProof.Rows L2
end DL
set_option maxHeartbeats 1000000
/-! ### a comprehension while an exception is handled -/
namespace L2P
open PySem PySem.Spec PyProof.Rows L2 L2H HotX
/-- the block's context: what is pinned stays so -/
abbrev blkP (X : Cx) (s : Shared) (H : Hp) (scope : Scope) (ce : Env) (fp : List Addr) : Cx := { X.blk s H scope ce fp with pn := X.pn }
section
variable {X : Cx} {pins : List (Addr × Obj)} {σ : L2.St} {H : Hp} {s : Shared}
theorem blkP_in {sB : Shared} {HB : Hp} {scope : Scope} {ce : Env} {fp : List Addr} (J : Inv (X.blk sB HB scope ce fp) [] σ H s)
    (hp : ∀ p ∈ X.pn, s.heap.get? p.1 = some p.2 ∧ H p.1 = none ∧ p.1 ≠ ce.locals ∧ p.1 ∉ frs X.stack ∧ ∀ v, p.2.data ≠ .cell v) : Inv (blkP X sB HB scope ce fp) [] σ H s :=
  have k := J.ok
  ⟨⟨k.mod, k.kind, k.glob, k.blt, k.above, k.inj, k.has, k.cab, k.hd, k.frames, k.stk, k.exf, k.bs, k.bsz, k.noex, k.exfs, k.funs, k.frf⟩, J.os, J.bare, J.base, J.loc, J.cell, J.free, J.freeC,
    fun p hm => hp p ((List.mem_append.mp hm).elim id fun z => absurd z List.not_mem_nil), J.hok, J.len⟩
theorem lcP {Q : VK} {elt tg iter : Expr} {ifs : List Expr} {scope : Scope} {own : List (Str × Nat)} {pos : Pos} {wi : TI} {g : TG} {tt : TT} {te : TE} (hot : HotC X) (hN : X.N.Nodup) (I : Inv X pins σ H s) (hi : PIH X tg iter wi) (ok : BlkOk X.N X.env.scope scope own)
    (hg : ∀ (s : Shared) (H : Hp) (C : Addr) (cl : List (Str × Addr)) (fp : List Addr), PG (blkP X s H scope (compEnvC scope cl C X.env) fp) tg g) (ht : ∀ (s : Shared) (H : Hp) (C : Addr) (cl : List (Str × Addr)) (fp : List Addr), PTs (blkP X s H scope (compEnvC scope cl C X.env) fp) ifs tt)
    (he : ∀ (s : Shared) (H : Hp) (C : Addr) (cl : List (Str × Addr)) (fp : List Addr), PE (blkP X s H scope (compEnvC scope cl C X.env) fp) elt te) (hs : ∀ x, foldedSetIterable iter X.env x = pure x) (want : tLc wi g tt te (own.map (·.2)) σ H Q) :
    wpAny (model X.prog X.w) X.A (eval (.ListComp elt [⟨tg, iter, ifs, 0⟩] scope pos) X.env) (EP X pins σ Q) X.xe s := by
  rw [eval_ListComp]
  refine wpAny_comprehension_free (use := none) rfl hs (closure_ok fun y hy e => (ok.free y hy e).elim (fun k => I.ok.has _ (.inl k)) fun k => I.ok.has _ (.inr k)) ok.kind (fun y hy e => by rw [ok.uniq y hy, e]) ?_
  refine thn (hi.run pins s σ H _ I want) fun v0 sa ra => thn ra fun v1 sb rb => ?_
  obtain ⟨it, fp, tn, J, Hb, rfl, Ib, T, tb0, fb, turns⟩ := rb
  refine wpAny_newObj_type (newEnv_comp ?_) (by show 0 ≤ sizeLine; decide)
  obtain ⟨D, eD⟩ : ∃ D, D = sb.heap.objs.size := ⟨_, rfl⟩
  obtain ⟨W, ⟨n0, w0⟩, turn⟩ := turns D (Ib.hok.fresh (by rw [eD]; exact Nat.le_refl _))
  rw [← eD]
  -- the state with the new list
  obtain ⟨sc, esc⟩ : ∃ sc : Shared, sc = { sb with heap := sb.heap.push { cls := .type "list", data := .seq ([] : List Value).toArray } } := ⟨_, rfl⟩
  have hsc : sc.heap = sb.heap.push { cls := .type "list", data := .seq ([] : List Value).toArray } := by rw [esc]
  have kc : ∀ b o, sb.heap.get? b = some o → sc.heap.get? b = some o := fun b o e => by rw [hsc]; exact Heap.get?_push_of_some _ e
  have Ic : Inv X pins σ (upd Hb D (.lst [])) sc := by
    rw [esc, eD]
    exact Ib.laid (t' := sb.toks) (fun b o e => Heap.get?_push_of_some _ e) (Nat.le_refl _) ⟨Nat.zero_le _, [], 0, .nil, Heap.get?_push_size _ rfl⟩
  have fc : ∀ b ∈ fp, FpOk X pins (upd Hb D (.lst [])) b ∧ b < sc.heap.objs.size := fun b hb => by
    obtain ⟨o, e, _⟩ := T.obj _ _ tb0 b hb
    have lt := Heap.lt_size e
    exact ⟨⟨(upd_ne (by rw [eD]; exact Nat.ne_of_lt lt)).trans (fb b hb).1, (fb b hb).2⟩, by rw [hsc, Heap.size_push]; exact Nat.lt_succ_of_lt lt⟩
  have tc0 := T.keep _ _ _ tb0 fun b _ o e => kc b o e
  obtain ⟨Hc, eHc⟩ : ∃ Hc, Hc = upd Hb D (.lst []) := ⟨_, rfl⟩
  rw [← eHc] at Ic fc w0
  -- the block's state
  obtain ⟨ce, ece⟩ : ∃ ce : Env, ce = compEnvC scope (cellsFrom (sc.heap.objs.size + 1) scope.names (cloFrom X.env.cells scope.names [])) sc.heap.objs.size X.env := ⟨_, rfl⟩
  obtain ⟨sd, esd⟩ : ∃ sd : Shared, sd = { sc with heap := pushCells (sc.heap.push { cls := .type "dict", data := .dict #[] }) scope.names } := ⟨_, rfl⟩
  have kd : ∀ b o, sc.heap.get? b = some o → sd.heap.get? b = some o := fun b o e => by rw [esd]; exact pushCells_keeps _ _ _ _ (Heap.get?_push_of_some _ e)
  have ceL : ce.locals = sc.heap.objs.size := by rw [ece]; rfl
  have pnC : ∀ p ∈ X.pn, sc.heap.get? p.1 = some p.2 ∧ Hc p.1 = none ∧ p.1 ≠ ce.locals ∧ p.1 ∉ frs X.stack ∧ ∀ v, p.2.data ≠ .cell v := fun p hp => by
    have P := Ic.pin p (List.mem_append_left _ hp)
    exact ⟨P.1, P.2.1, by rw [ceL]; exact Nat.ne_of_lt (Heap.lt_size P.1), fun hm => (List.mem_cons.mp (Ic.stkSub p.1 hm)).elim P.2.2.1 P.2.2.2.1, P.2.2.2.2⟩
  have Id : Inv (blkP X sc Hc scope ce fp) [] (wipe σ (own.map (·.2))) Hc sd := by
    have J0 := block_start Ic ok hN fc
    rw [← ece, ← esd] at J0
    exact blkP_in J0 fun p hp => ⟨kd _ _ (pnC p hp).1, (pnC p hp).2⟩
  have rg := hg sc Hc sc.heap.objs.size (cellsFrom (sc.heap.objs.size + 1) scope.names (cloFrom X.env.cells scope.names [])) fp
  have rt := ht sc Hc sc.heap.objs.size (cellsFrom (sc.heap.objs.size + 1) scope.names (cloFrom X.env.cells scope.names [])) fp
  have re := he sc Hc sc.heap.objs.size (cellsFrom (sc.heap.objs.size + 1) scope.names (cloFrom X.env.cells scope.names [])) fp
  rw [← ece] at rg rt re
  have td0 := T.keep _ _ _ tc0 fun b _ o e => kd b o e
  have hotB : HotC (blkP X sc Hc scope ce fp) := hot
  have fps : ∀ {σ' : L2.St} {H' : Hp} {s' : Shared}, Inv (blkP X sc Hc scope ce fp) [] σ' H' s' → (∀ b ∈ fp, H' b = none) → ∀ b ∈ fp, FpOk (blkP X sc Hc scope ce fp) [] H' b := fun {σ' H' s'} I' hn b hb =>
    ⟨hn b hb, (I'.ok.exf b hb).1, I'.ok.exfs b hb, .inl hb, (I'.ok.exf b hb).2, fun p hp => (fc b hb).1.2.2.2.2.2 p (List.mem_append_left _ ((List.mem_append.mp hp).elim id fun z => absurd z List.not_mem_nil))⟩
  have post : ∀ (s' : Shared) (H' : Hp), Inv (blkP X sc Hc scope ce fp) [] (wipe σ (own.map (·.2))) H' s' → Q (.ref D) H' → compPost (model X.prog X.w) X.A X.xe none (EP X pins σ Q) (.ref D) sc.heap.objs.size (.ok .next) s' := fun s' H' I' q => by
    obtain ⟨m, hn, _⟩ := I'.loc
    have hn : s'.heap.Ns ce.locals m := hn
    have nC : H' ce.locals = none := I'.free
    rw [ceL] at hn nC
    have back : Inv X pins σ H' s' := Ic.call' (ch := fp) I'.os I'.base I'.hok I'.bare fun b hb => ⟨(fc b hb).1.2.2.2.1, (fc b hb).1.2.1, (fc b hb).1.2.2.2.2.1, (fc b hb).1.2.2.2.2.2⟩
    obtain ⟨c0, c1, _, c3, c4, c5⟩ := Ic.fpOk (Nat.le_refl _) nC
    exact ⟨m, hn, fun h2 sb2 => ⟨.ref D, H', back.turned (t' := s'.toks) (fun b o hb e => (sb2.2 b hb).trans e) c0 c1 c3 c4 c5, rfl, q⟩⟩
  have loop : codeAny (model X.prog X.w) X.A (.compLoop (.ListComp elt [⟨tg, iter, ifs, 0⟩] scope pos) 0 (.ref it) (.ref D) ce) (compPost (model X.prog X.w) X.A X.xe none (EP X pins σ Q) (.ref D) sc.heap.objs.size) sd := by
    refine compLoop_any (fun n s' => ∃ i H', Inv (blkP X sc Hc scope ce fp) [] (wipe σ (own.map (·.2))) H' s' ∧ tn i s'.heap ∧ (∀ b ∈ fp, H' b = none) ∧ W i n H') ?_ n0 ⟨0, Hc, Id, td0, fun b hb => (fc b hb).1.1, w0⟩
    rintro n se ⟨i, He, Ie, te0, ne, we⟩
    rcases turn i n He we with ⟨stop, q⟩ | ⟨go, Nx, less, step⟩
    · refine thnF (T.done (blkP X sc Hc scope ce fp) rfl rfl rfl hotB i [] se _ He (fun _ _ => False) Ie (fps Ie ne) te0 stop) ?_
      rintro r sf ⟨rfl, If⟩
      exact post sf He If q
    · refine thnF (T.item (blkP X sc Hc scope ce fp) rfl rfl rfl hotB i [] se _ He (fun _ _ => False) Ie (fps Ie ne) te0 go) ?_
      rintro r sf ⟨u, rfl, hf⟩
      refine thnF hf ?_
      rintro _ sg ⟨x, Hg, Ig, rx, yx, tg1, ng⟩
      refine thnF (rg.run _ sg _ Hg x u _ (Ig.pinned (fps Ig ng) (T.obj _ _ tg1)) rx (step x Hg yx)) ?_
      rintro _ sh ⟨σh, Hh, Ih, wh, qh⟩
      refine thnF (rt.run _ sh σh Hh _ Ih qh) ?_
      rintro b sj ⟨Hj, Ij, qj⟩
      have again : ∀ {s' : Shared} {H' : Hp}, Inv (blkP X sc Hc scope ce fp) ([] ++ pinsAt fp sg.heap) σh H' s' → Nx H' → ∃ k, k < n ∧ ∃ i H', Inv (blkP X sc Hc scope ce fp) [] (wipe σ (own.map (·.2))) H' s' ∧ tn i s'.heap ∧ (∀ b ∈ fp, H' b = none) ∧ W i k H' := fun {s' H'} I' nx => by
        obtain ⟨k, lt, w'⟩ := less H' nx
        have at_ : ∀ b ∈ fp, ∀ o, sg.heap.get? b = some o → s'.heap.get? b = some o ∧ H' b = none := fun b hb o e => by
          have z := I'.pin (b, o) (List.mem_append_right _ (List.mem_append_right _ (mem_pinsAt hb e)))
          exact ⟨z.1, z.2.1⟩
        refine ⟨k, lt, i + 1, H', (I'.unpinned (pins := [])).weak (by rw [← wh, wipe_length]) (fun j v e => (wipe_some (vs := own.map (·.2)) (by rw [wh]; exact e)).1), T.keep _ _ _ tg1 fun b hb o e => (at_ b hb o e).1, fun b hb => ?_, w'⟩
        obtain ⟨o, e, _⟩ := T.obj _ _ tg1 b hb
        exact (at_ b hb o e).2
      cases b with
      | false =>
        rw [if_neg Bool.false_ne_true] at qj ⊢
        exact again Ij qj
      | true =>
        rw [if_pos rfl] at qj ⊢
        refine thnF (re.run _ sj σh Hj _ Ij qj) ?_
        rintro z sk ⟨y, Hk, Ik, ry, acc, hacc, lacc, nx⟩
        exact app_ok (X := blkP X sc Hc scope ce fp) Ik hacc lacc ry fun sl Il => again Il nx
  have start := codeAny_compStart_list loop (T.self X.A 0 _ _ _ td0 loop)
  subst esd ece esc
  exact start
end
end L2P
set_option maxHeartbeats 1000000
/-! ### a def that is called while an exception is handled; what it promises may speak of that exception -/
namespace L2P
open PySem PySem.Spec PyProof.Rows L2 L2H HotX
structure FnP (P : Program) (w : World) (K : PySem.W.Frag) (mg : Str → Option Value) (base : Heap) (CX : CXT) (k : Nat) (f : Addr) (fd : FuncData) (ps : List Str) (sp : Addr × Obj → Sp) : Prop where
  len : ∀ p vs H Q E, sp p vs H Q E → vs.length = ps.length
  run : ∀ (p : Addr × Obj) (A : Around) (outer : List Env) (s : Shared) (H : Hp) (args : Args) (us : List Value) (vs : List V) (Q : VK) (E : XK), Hot1 A p → PinOk outer H s p → RoomH k A → Env0 P w K mg base A outer s H → BindsTo s fd args (ps.zip us) → Vals vs us → sp p vs H Q E →
    codeAny (model P w) A (.call (.ref f) args) (CR CX outer P w H s Q E) s
section
variable {CX : CXT} {P : Program} {w : World} {K : PySem.W.Frag} {mg : Str → Option Value} {base : Heap} {x qual : Str} {params : Arguments} {body : List Stmt} {scope : Scope} {dvs : List V} {kws : List (Str × V)} {f : Addr} {fd : FuncData} {N ps : List Str} {k : Nat} {sp : Addr × Obj → Sp}
theorem fnP_of (F : FunD K x qual params body scope dvs kws f fd) (Sc : FnScope N ps scope) (len : ∀ p vs H Q E, sp p vs H Q E → vs.length = ps.length)
    (hb : ∀ (cdv : Value) (A : Around) (outer : List Env) (s : Shared) (H : Hp) (vs : List V) (Q : VK) (E : XK) (p : Addr × Obj), RoomH k (A.deeper (envOfC qual scope s.heap.objs.size f cdv)) → Hot1 A p → sp p vs H Q E →
      ∃ t, PSs (cxH CX P w K mg base N qual scope f cdv A outer s H E p) body t ∧ t { nx := fun _ H' => Q .non H', rt := Q } (L2.start N vs) H) : FnP P w K mg base CX (k + 1) f fd ps sp := by
  obtain ⟨oc, od, dV, kV, doc, pm, an, cdv, ct, osl, rfl, look, code, -, -⟩ := F.ex
  refine ⟨len, fun p A outer s H args us vs Q E hot pin room e0 bind rel want => ?_⟩
  have Kin : K.In s.heap := e0.mod.kin.keeps fun b o e => (e0.bs b o e).1
  have kinds : ∀ y ∈ ps.zip us, scope.names.lookup y.1 = some .local ∨ (scope.names.lookup y.1 = some .cell ∧ ((cellsFrom (s.heap.objs.size + 1) scope.names []).lookup y.1).isSome = true) := by
    rintro ⟨n, v⟩ hy
    exact (Sc.par n (List.of_mem_zip hy).1).imp id fun q => ⟨q, PySem.W.cellsFrom_some _ _ _ (.inl q)⟩
  refine codeAny_call_function room.depth (Kin _ _ look) rfl Sc.co Sc.gen rfl (PySem.W.codeRec_of Kin code) (bind _ _ _ _ ?_)
  refine wpAny_newFunctionEnv_cells Sc.kind kinds ?_
  rintro env rfl s1 made
  obtain ⟨t, walk, q⟩ := hb cdv A outer s H vs Q E p (room.deeper _) hot want
  refine ⟨(e0.mod.nolimit.keeps fun b o e => (e0.bs b o e).1).keeps made.toInCall.keep, codeAny_func ?_⟩
  refine wpAny_mono (walk.run [] s1 (L2.start N vs) H _ (inv_startH Sc pin e0 (len _ _ _ _ _ want) rel made) q) ?_ fun _ _ z => z
  rintro (_ | _ | _ | u) s2 r2
  all_goals first
    | (obtain ⟨σ2, H2, J2, q2⟩ := r2; exact ⟨.non, H2, J2.os, J2.bare, J2.base, J2.hok, rfl, q2⟩)
    | (obtain ⟨v2, σ2, H2, J2, rel2, q2⟩ := r2; exact ⟨v2, H2, J2.os, J2.bare, J2.base, J2.hok, rel2, q2⟩)
    | (obtain ⟨_, _, _, z⟩ := r2; exact z.elim)
end
section
variable {X : Cx} {CX : CXT} {k : Nat} {f : Addr} {fd : FuncData} {ps : List Str} {sp : Addr × Obj → Sp} {E : L2.St → XK} {x : Str} {q pos : Pos} {e : Expr} {es : List Expr} {t : TA} {p : Addr × Obj}
theorem pe_callP (F : FnP X.prog X.w X.K X.mg X.base CX k f fd ps sp) (room : RoomH k X.A) (hot : Hot1 X.A p) (hp : p ∈ X.pn) (hg : Gl X x) (hm : X.mg x = some (.ref f)) (hk : PySem.W.keepIn X.K (.ref f) = true) (hb : Binds X.K fd ps []) (pass : ∀ σ, PassesAt CX X σ (E σ))
    (ha : PA X (e :: es) t) (hdb : (x == ("__debug__" : Str)) = false := by decide) (he : starEach (e :: es) X.env = (false, eval e X.env) :: starEach es X.env := by rfl) (hpl : (backTo pos (starEach es X.env)).any (·.1) = false := by rfl) :
    PE X (.Call (.Name x q) (e :: es) [] pos) (tCallS (sp p) E t) := by
  refine ⟨fun pins s σ H Q I want => wpAny_Call_Name_kw (ld_glob I hg hm ?_ hdb)⟩
  refine PySem.W.callWith_K (h₀ := X.base) I.ok.mod.kin hk ?_ he hpl
  refine thn (ha.run pos pins s σ H _ I want) ?_
  rintro us s1 ⟨vs, H1, I1, rel, want1⟩
  refine ⟨I1.kIn, ?_⟩
  have l1 : (us ++ []).length = ps.length := by rw [List.append_nil, ← rel.length]; exact F.len _ _ _ _ _ want1
  have pinned := I1.pin p (List.mem_append_left _ hp)
  have bound := hb s1 us I1.kIn l1
  rw [List.append_nil] at bound
  refine wpAny_call (codeAny_mono (F.run p X.A X.stack s1 H1 ⟨us, []⟩ us vs Q (E σ) hot ⟨pinned.1, pinned.2.1, fun hm => (List.mem_cons.mp (I1.stkSub p.1 hm)).elim pinned.2.2.1 pinned.2.2.2.1, pinned.2.2.2.2⟩ room I1.env0 bound rel want1) ?_)
  rintro (err | (_ | _ | _ | u)) s2 r2
  all_goals first
    | exact pass σ pins H1 s1 _ s2 I1 r2
    | exact I1.after r2
    | exact r2.elim
end
end L2P
namespace DL
open PySem PySem.Spec PyProof.Rows L2 L2P L2H
/-! ### data while an exception is pinned -/
abbrev Sx.pin (S : Sx) (q : Addr × Obj) : Sx := ⟨S.K, S.A, S.n0, q :: S.pn, S.cls⟩
mutual
def noX : D → Bool
  | .tup l => noXs l | .lst l => noXs l | .dct _ l => noXs l | .obj _ _ l => noXs l
  | .exc _ _ _ => false
  | _ => true
def noXs : List D → Bool
  | [] => true
  | d :: l => noX d && noXs l
end
section
variable {S : Sx} {q : Addr × Obj} {io : List Addr} {F : Hp}
mutual
theorem rep_pin : ∀ (d : D) {v : V}, rep S io F d v → rep (S.pin q) io F d v
  | .tup l, v, h => by unfold rep at h ⊢; obtain ⟨a, xs, h1, h2, h3⟩ := h; exact ⟨a, xs, h1, h2, reps_pin l h3⟩
  | .lst l, v, h => by unfold rep at h ⊢; obtain ⟨a, xs, h1, h2, h3⟩ := h; exact ⟨a, xs, h1, h2, reps_pin l h3⟩
  | .dct ks l, v, h => by unfold rep at h ⊢; obtain ⟨a, xs, h1, h2, h3, h4⟩ := h; exact ⟨a, xs, h1, h2, h3, reps_pin l h4⟩
  | .obj c ns l, v, h => by unfold rep at h ⊢; obtain ⟨a, dx, xs, h1, h2, h3, h4, h5⟩ := h; exact ⟨a, dx, xs, h1, h2, h3, reps_pin l h4, h5⟩
  | .exc c ns l, v, h => by
    unfold rep at h ⊢
    obtain ⟨a, oe, d, h1, h2, h3, h4, h5⟩ := h
    exact ⟨a, oe, d, h1, List.mem_cons_of_mem _ h2, h3, h4, h5.imp id fun ⟨dd, fs, k1, k2, k3, k4⟩ => ⟨dd, fs, k1, k2, k3, reps_pin l k4⟩⟩
  | .non, v, h => by unfold rep at h ⊢; exact h
  | .txt, v, h => by unfold rep at h ⊢; exact h
  | .bl _, v, h => by unfold rep at h ⊢; exact h
  | .int _, v, h => by unfold rep at h ⊢; exact h
  | .str _, v, h => by unfold rep at h ⊢; exact h
  | .ty _, v, h => by unfold rep at h ⊢; exact h
  | .glo _, v, h => by unfold rep at h ⊢; exact h
  | .scr _, v, h => by unfold rep at h ⊢; exact h
  | .cel _, v, h => by unfold rep at h ⊢; exact h
theorem reps_pin : ∀ (l : List D) {xs : List V}, reps S io F l xs → reps (S.pin q) io F l xs
  | [], xs, h => by unfold reps at h ⊢; exact h
  | d :: l, xs, h => by
    unfold reps at h ⊢
    obtain ⟨x, r, h1, h2, h3⟩ := h
    exact ⟨x, r, h1, rep_pin d h2, reps_pin l h3⟩
end
mutual
theorem rep_unpin : ∀ (d : D) {v : V}, noX d = true → rep (S.pin q) io F d v → rep S io F d v
  | .tup l, v, n, h => by unfold noX at n; unfold rep at h ⊢; obtain ⟨a, xs, h1, h2, h3⟩ := h; exact ⟨a, xs, h1, h2, reps_unpin l n h3⟩
  | .lst l, v, n, h => by unfold noX at n; unfold rep at h ⊢; obtain ⟨a, xs, h1, h2, h3⟩ := h; exact ⟨a, xs, h1, h2, reps_unpin l n h3⟩
  | .dct ks l, v, n, h => by unfold noX at n; unfold rep at h ⊢; obtain ⟨a, xs, h1, h2, h3, h4⟩ := h; exact ⟨a, xs, h1, h2, h3, reps_unpin l n h4⟩
  | .obj c ns l, v, n, h => by unfold noX at n; unfold rep at h ⊢; obtain ⟨a, dx, xs, h1, h2, h3, h4, h5⟩ := h; exact ⟨a, dx, xs, h1, h2, h3, reps_unpin l n h4, h5⟩
  | .exc c ns l, v, n, h => by unfold noX at n; cases n
  | .non, v, n, h => by unfold rep at h ⊢; exact h
  | .txt, v, n, h => by unfold rep at h ⊢; exact h
  | .bl _, v, n, h => by unfold rep at h ⊢; exact h
  | .int _, v, n, h => by unfold rep at h ⊢; exact h
  | .str _, v, n, h => by unfold rep at h ⊢; exact h
  | .ty _, v, n, h => by unfold rep at h ⊢; exact h
  | .glo _, v, n, h => by unfold rep at h ⊢; exact h
  | .scr _, v, n, h => by unfold rep at h ⊢; exact h
  | .cel _, v, n, h => by unfold rep at h ⊢; exact h
theorem reps_unpin : ∀ (l : List D) {xs : List V}, noXs l = true → reps (S.pin q) io F l xs → reps S io F l xs
  | [], xs, n, h => by unfold reps at h ⊢; exact h
  | d :: l, xs, n, h => by
    unfold noXs at n
    have n' := Bool.and_eq_true_iff.mp n
    unfold reps at h ⊢
    obtain ⟨x, r, h1, h2, h3⟩ := h
    exact ⟨x, r, h1, rep_unpin d n'.1 h2, reps_unpin l n'.2 h3⟩
end
def noXM : M → Bool
  | .lst l => noXs l
  | .dct _ l => noXs l
  | .obj _ _ l => noXs l
  | .dead => true
def noXO : Option D → Bool
  | some d => noX d
  | none => true
theorem cell_pin {c : Cf} {a : Addr} : ∀ {m : M}, cellOk S c a m → cellOk (S.pin q) c a m
  | .lst l, ⟨h1, xs, h2, h3⟩ => ⟨h1, xs, h2, reps_pin l h3⟩
  | .dct ks l, ⟨h1, xs, h2, h3, h4⟩ => ⟨h1, xs, h2, h3, reps_pin l h4⟩
  | .obj x ns l, ⟨h1, dx, xs, h2, h3, h4⟩ => ⟨h1, dx, xs, h2, h3, reps_pin l h4⟩
  | .dead, h => h
theorem cell_unpin {c : Cf} {a : Addr} : ∀ {m : M}, noXM m = true → cellOk (S.pin q) c a m → cellOk S c a m
  | .lst l, n, ⟨h1, xs, h2, h3⟩ => ⟨h1, xs, h2, reps_unpin l n h3⟩
  | .dct ks l, n, ⟨h1, xs, h2, h3, h4⟩ => ⟨h1, xs, h2, h3, reps_unpin l n h4⟩
  | .obj x ns l, n, ⟨h1, dx, xs, h2, h3, h4⟩ => ⟨h1, dx, xs, h2, h3, reps_unpin l n h4⟩
  | .dead, n, h => h
theorem SI.pin {c : Cf} {μ : List M} (h : SI S c μ) : SI (S.pin q) c μ := ⟨h.ex, h.len, h.nd, fun i a m h1 h2 => cell_pin (h.cell i a m h1 h2), h.cls⟩
theorem SI.unpin {c : Cf} {μ : List M} (n : μ.all noXM = true) (h : SI (S.pin q) c μ) : SI S c μ :=
  ⟨h.ex, h.len, h.nd, fun i a m h1 h2 => cell_unpin (List.all_eq_true.mp n m (List.mem_of_getElem? h2)) (h.cell i a m h1 h2), h.cls⟩
theorem EnvOk.pin {c : Cf} {env : En} {σ : St} (h : EnvOk S c env σ) : EnvOk (S.pin q) c env σ := ⟨h.len, fun i d e => by
  obtain ⟨v, h1, h2⟩ := h.at_ i d e
  exact ⟨v, h1, rep_pin d h2⟩⟩
theorem EnvOk.unpin {c : Cf} {env : En} {σ : St} (n : env.all noXO = true) (h : EnvOk (S.pin q) c env σ) : EnvOk S c env σ := ⟨h.len, fun i d e => by
  obtain ⟨v, h1, h2⟩ := h.at_ i d e
  exact ⟨v, h1, rep_unpin d (List.all_eq_true.mp n (some d) (List.mem_of_getElem? e)) h2⟩⟩
theorem Step.pin {c c' : Cf} (s : Step (S.pin q) c c') : Step S c c' := ⟨s.pre, s.nd, s.exF, s.frz, s.keep, s.new, s.som⟩
end
end DL
set_option maxHeartbeats 1000000
/-! ### rules where an exception is handled -/
namespace L2H
open PySem PySem.Spec PyProof.Rows L2
theorem RoomH.units {k : Nat} {A : Around} (r : RoomH k A) : A.units + 64 < cLine := by have := r.un; omega
theorem roomH_mark {k : Nat} {A : Around} {h : Option Value} (r : Room k A) : RoomH k (A.mark h) := ⟨r.dp, r.un⟩
end L2H
namespace DL
open PySem PySem.Spec PyProof.Rows L2 L2P L2H
/-! what an exception is -/
def bIsX (xs : List Str) (u : Ty) (_ : List M) : List D → Option D
  | [.exc x _ _, c] => if clsD c = some u then (if xs.contains x then some (.bl (exSub x u)) else none) else none
  | _ => none
theorem exCB_ok {K : PySem.W.Frag} {D : Addr} (h : exCB K D = true) : ExcC K D := by
  unfold exCB at h
  simp only [Bool.and_eq_true, decide_eq_true_eq] at h
  obtain ⟨h1, h2, h3, h4, h5, h6, h7, h8⟩ := h
  exact ⟨He.eqO_ok h1, He.eqO_ok h2, h3, h4, He.eqO_ok h5, He.eqO_ok h6, h7, h8⟩
/-- the exceptions' classes, for isinstance -/
structure ExcsF (S : Sx) (xs : List Str) (u : Ty) : Prop where
  c : ∀ x ∈ xs, ExcC S.K (S.A x)
  k : ∀ x ∈ xs, PySem.W.kitOne S.K (.ref (S.A x)) (tyv S u) = some (exSub x u)
/-- .. for an except clause -/
def ExmF (S : Sx) (xs : List Str) (u : Str) : Prop := ∀ x ∈ xs, PySem.W.exmOne S.K (.ref (S.A x)) (.ref (S.A u)) = some (exSub x (.inr u))
theorem excsB_ok {S : Sx} {xs : List Str} {u : Ty} (h : excsB S xs u = true) : ExcsF S xs u :=
  ⟨fun x m => exCB_ok (Bool.and_eq_true_iff.mp (List.all_eq_true.mp h x m)).1, fun x m => of_decide_eq_true (Bool.and_eq_true_iff.mp (List.all_eq_true.mp h x m)).2⟩
theorem excsB_at {S : Sx} {xs : List Str} {u : Ty} (h : excsB S xs u = true) (n : Nat) (p : Addr × Obj) : ExcsF ((at0 S n).pin p) xs u := ⟨(excsB_ok h).c, (excsB_ok h).k⟩
theorem exmB_ok {S : Sx} {xs : List Str} {u : Str} (h : exmB S xs u = true) : ExmF S xs u := fun x m => of_decide_eq_true (List.all_eq_true.mp h x m)
/-- a pinned exception of the class D stands at a -/
def PinI (pn : List (Addr × Obj)) (H : Hp) (a D : Addr) : Prop := ∃ (oe : Obj) (d : Option Addr), (a, oe) ∈ pn ∧ Zc (.ref D) d oe ∧ (∃ vs, oe.data = .fields vs) ∧ (d = none ∨ ∃ dd fs, d = some dd ∧ H dd = some (.xd fs))
section
variable {X : Cx}
theorem isi_pinned {pins : List (Addr × Obj)} {σ : L2.St} {H : Hp} {s : Shared} {a D : Addr} (I : Inv X pins σ H s) (h : PinI X.pn H a D) (C : ExcC X.K D) : ∃ P : Heap → Prop, PySem.W.KitX X.K (.ref a) (.ref D) P ∧ P s.heap := by
  obtain ⟨oe, d, hp, hz, ⟨vs, hv⟩, hd⟩ := h
  have G := (I.pin (a, oe) (List.mem_append_left _ hp)).1
  have cl : (PySem.W.clsIn X.K D).isSome = true := by
    obtain ⟨cd, hc, _⟩ := PySem.W.any_some C.hd
    rw [hc]; rfl
  rcases hd with rfl | ⟨dd, fs, rfl, hf⟩
  · exact ⟨_, PySem.W.kitx_exc (ox := oe) (od := none) cl C.hg C.hk C.hs C.ha C.hn C.ht C.hm, ⟨G, hz.1, by unfold PySem.W.notCls; rw [hv] <;> rfl, by rw [hz.2]; trivial⟩⟩
  · have hx : ObjOk X.prog X.w H s.heap dd (.xd fs) := I.hok dd _ hf
    obtain ⟨mA, hns, hr⟩ := hx
    obtain ⟨od, ho, hl⟩ := lookIn_ns hns
    exact ⟨_, PySem.W.kitx_exc (ox := oe) (od := some od) cl C.hg C.hk C.hs C.ha C.hn C.ht C.hm, ⟨G, hz.1, by unfold PySem.W.notCls; rw [hv] <;> rfl, by rw [hz.2]; exact ho⟩⟩
theorem call_isX : CallR X (.builtin "isinstance") (fun xs H Q => ∃ (a D : Addr) (c : V) (cv : Value) (b : Bool), xs = [.ref a, c] ∧ PinI X.pn H a D ∧ ExcC X.K D ∧ ClsV c cv ∧ PySem.W.kitOne X.K (.ref D) cv = some b ∧ Q (.bl b) H) := by
  intro pins s σ H xs us Q I r h
  obtain ⟨a, D, c, cv, b, rfl, hp, C, hc, e, q⟩ := h
  obtain ⟨u1, u2, rfl, r1, r2⟩ := vals2 r
  cases r1
  have ec := hc.eq r2
  subst ec
  obtain ⟨P, Z, z⟩ := isi_pinned I hp C
  exact PySem.W.kia_one Z I.kIn z e (fun z => nomatch z) fun tk => ⟨.bl b, H, I.tok tk, rfl, q⟩
def rIsXT (X : Cx) : List V → Hp → VK → Prop := fun xs H Q => ∃ (a D tp : Addr) (cs : List V) (ws : List Value) (b : Bool), xs = [.ref a, .ref tp] ∧ PinI X.pn H a D ∧ ExcC X.K D ∧ H tp = some (.tup cs) ∧ Paired ClsV cs ws ∧ PySem.W.kitAny X.K (.ref D) ws = some b ∧ Q (.bl b) H
theorem call_isXT : CallR X (.builtin "isinstance") (rIsXT X) := by
  intro pins s σ H xs us Q I r h
  obtain ⟨a, D, tp, cs, ws, b, rfl, hp, C, hT, k, e, q⟩ := h
  obtain ⟨u1, u2, rfl, r1, r2⟩ := vals2 r
  cases r1
  cases (show u2 = Value.ref tp from r2)
  obtain ⟨_, its, rv, o, h1, h2, n, h3⟩ := (show ObjOk X.prog X.w H s.heap tp (.tup cs) from I.hok tp _ hT)
  have e3 := ClsV.all k rv
  subst e3
  obtain ⟨oc, od, dt, sl⟩ := o
  simp only at h2 h3
  subst h2 h3
  obtain ⟨P, Z, z⟩ := isi_pinned I hp C
  exact PySem.W.kia_tup Z I.kIn z h1 e (fun z => nomatch z) fun tk => ⟨.bl b, H, I.tok tk, rfl, q⟩
end
def exSubs (x : Str) (us : List Str) : Bool := us.any fun u => exSub x (.inr u)
def dIsXT (xs us : List Str) (da : DE) : DE := fun env μ => (da env μ).bind fun x μ1 => match x with
  | .exc x _ _ => if xs.contains x then .ok (.bl (exSubs x us)) μ1 else .stuck
  | _ => .stuck
section
variable {X : Cx} {S : Sx} {W : WX} {a b e tg : Expr} {es : List Expr} {da db d : DE} {dt : DT} {ds : DA} {pos p tpos : Pos} {k : Nat} {xs : List Str} {u : Ty}
theorem exc_at {c : Cf} {μ : List M} {x : Str} {ns : List Str} {l : List D} {v : V} {pn : List (Addr × Obj)} (hp : ∀ q ∈ S.pn, q ∈ pn) (I : SI S c μ) (r : rep S c.io c.F (.exc x ns l) v) : ∃ a, v = .ref a ∧ PinI pn c.H a (S.A x) := by
  unfold rep at r
  obtain ⟨a, oe, d, h1, h2, h3, h4, h5⟩ := r
  refine ⟨a, h1, oe, d, hp _ h2, h3, h4, ?_⟩
  rcases h5 with ⟨_, _, h⟩ | ⟨dd, fs, h, hf, _, _⟩
  · exact .inl h
  · exact .inr ⟨dd, fs, h, I.ex _ _ hf⟩
theorem PinI.up {pn : List (Addr × Obj)} {H H' : Hp} {a D : Addr} (h : PinI pn H a D) (k : ∀ b o, H b = some o → H' b = some o) : PinI pn H' a D := by
  obtain ⟨oe, d, h1, h2, h3, h4⟩ := h
  exact ⟨oe, d, h1, h2, h3, h4.imp id fun ⟨dd, fs, e, f⟩ => ⟨dd, fs, e, k _ _ f⟩⟩
theorem pb_isX (hK : X.K = S.K) (hp : ∀ q ∈ S.pn, q ∈ X.pn) (hF : ExcsF S xs u) : PDB X S (.builtin "isinstance") (bIsX xs u) := by
  refine ⟨_, call_isX, fun c μ vs l d Q I r e k => ?_⟩
  unfold bIsX at e
  split at e
  · rename_i x ns l' cc
    split at e
    · rename_i hc
      split at e
      · rename_i hx
        obtain rfl := Option.some.inj e
        obtain ⟨v, r0, rfl, r1, r2⟩ := r.uncons
        obtain ⟨v2, r0, rfl, r3, r4⟩ := r2.uncons
        rw [r4.eq_nil]
        obtain ⟨a, rfl, ha⟩ := exc_at hp I r1
        have m : x ∈ xs := List.contains_iff_mem.mp hx
        have cv : ClsV v2 (tyv S u) := by
          cases cc with
          | ty n => cases (show some (Sum.inl n : Ty) = some u from hc); rw [rep_ty.mp r3]; exact .ty n
          | glo y => cases (show some (Sum.inr y : Ty) = some u from hc); rw [rep_glo.mp r3]; exact .own _
          | _ => cases hc
        exact ⟨a, S.A x, v2, tyv S u, exSub x u, rfl, ha, by rw [hK]; exact hF.c x m, cv, by rw [hK]; exact hF.k x m, k _ c I.step I (rep_bl.mpr rfl)⟩
      · cases e
    · cases e
  · cases e
theorem kit_exsubs {x : Str} (hx : x ∈ xs) : ∀ {us : List Str}, (∀ u ∈ us, ExcsF S xs (.inr u)) → PySem.W.kitAny S.K (.ref (S.A x)) (us.map fun u => tyv S (.inr u)) = some (exSubs x us)
  | [], _ => rfl
  | u :: us, h => by
    have h1 := (h u List.mem_cons_self).k x hx
    have h2 := kit_exsubs hx fun v hv => h v (List.mem_cons_of_mem _ hv)
    show (match PySem.W.kitOne S.K (.ref (S.A x)) (tyv S (.inr u)) with | some true => some true | some false => PySem.W.kitAny S.K (.ref (S.A x)) (us.map fun u => tyv S (.inr u)) | none => none) = _
    rw [h1]
    unfold exSubs
    rw [List.any_cons]
    cases exSub x (.inr u) with
    | true => rfl
    | false => exact h2
theorem pd_isXT {us : List Str} {kk : Nat} (hK : X.K = S.K) (hp : ∀ q ∈ S.pn, q ∈ X.pn) (hu : ∀ u ∈ us, ExcsF S xs (.inr u)) (hne : us ≠ []) (hl : us.length ≤ 1000) (hg : Gl X "isinstance") (hm : X.mg "isinstance" = none) (ha : PDE X S W a da) (hc : ClsT X S es us)
    (h1 : starEach [a, .Tuple es kk tpos] X.env = (false, eval a X.env) :: starEach [.Tuple es kk tpos] X.env := by rfl) (h2 : starEach [.Tuple es kk tpos] X.env = (false, eval (.Tuple es kk tpos) X.env) :: starEach [] X.env := by rfl)
    (hpl : (backTo pos (starEach [.Tuple es kk tpos] X.env)).any (·.1) = false := by rfl) : PDE X S W (.Call (.Name "isinstance" p) [a, .Tuple es kk tpos] [] pos) (dIsXT xs us da) := by
  obtain ⟨ta, pa, ka⟩ := ha.ex
  refine ⟨_, pe_callB call_isXT hg hm (by decide +kernel) (pa_cons pa (pa_cons (pe_tup hc.pa) pa_nil h2) h1) (by decide) (by decide) h1 hpl, fun env σ c μ Q I en q => ?_⟩
  refine (show ta σ c.H fun x H1 => (us.map fun c => V.ref (S.A c)).length ≤ sizeLine ∧ ∀ p, H1 p = none → rIsXT X [x, .ref p] (upd H1 p (.tup (us.map fun c => V.ref (S.A c)))) Q from ?_)
  refine bindE (fun Q' => ka env σ c μ Q' I en) q fun x μ1 v c1 s1 I1 r1 q1 => ?_
  cases x with
  | exc x ns l =>
    dsimp only at q1
    by_cases hx : xs.contains x = true
    · rw [if_pos hx] at q1
      refine ⟨by rw [List.length_map]; exact sz_of (Nat.le_trans hl (by decide)), fun p hpn => ?_⟩
      obtain ⟨I2, s2⟩ := I1.fresh (o := .tup (us.map fun c => V.ref (S.A c))) hpn
      obtain ⟨a', rfl, ha'⟩ := exc_at hp I2 (s2.rep r1)
      obtain ⟨u0, hu0⟩ := List.exists_mem_of_ne_nil _ hne
      have m : x ∈ xs := List.contains_iff_mem.mp hx
      exact ⟨a', S.A x, p, _, _, exSubs x us, rfl, ha', by rw [hK]; exact (hu u0 hu0).c x m, upd_same, paired_own, by rw [hK]; exact kit_exsubs m hu, q1 _ _ s2 I2 (rep_bl.mpr rfl)⟩
    · rw [if_neg hx] at q1; exact q1.elim
  | _ => exact q1.elim
end
end DL
set_option maxHeartbeats 1000000
namespace DL
open PySem PySem.Spec PyProof.Rows L2 L2P L2H
/-! ### calls of a def from a suite; such a def -/
structure CalP (P : Program) (w : World) (K : PySem.W.Frag) (mg : Str → Option Value) (base : Heap) (S : Sx) (k : Nat) (x : Str) (np : Nat) (G : GF) : Prop where
  ex : ∃ (f : Addr) (fd : FuncData) (ps : List Str), mg x = some (.ref f) ∧ PySem.W.keepIn K (.ref f) = true ∧ Binds K fd ps [] ∧ FnP P w K mg base (L2M.CX false P w) k f fd ps (fun p => spD (S.pin p) np G)
section
variable {P : Program} {w : World} {K : PySem.W.Frag} {mg : Str → Option Value} {base : Heap} {x qual : Str} {params : Arguments} {body : List Stmt} {scope : Scope} {dvs : List V} {kws : List (Str × V)} {f : Addr} {fd : FuncData}
theorem fnP_ok {N ps : List Str} {k : Nat} {S : Sx} {D : DS} (F : FunD K x qual params body scope dvs kws f fd) (Sc : FnScope N ps scope)
    (hb : ∀ (n : Nat) (cdv : Value) (A : Around) (outer : List Env) (s : Shared) (H : Hp) (E : XK) (p : Addr × Obj), RoomH k (A.deeper (envOfC qual scope s.heap.objs.size f cdv)) → Hot1 A p →
      PDSs (cxH (L2M.CX false P w) P w K mg base N qual scope f cdv A outer s H E p) ((at0 S n).pin p) (fun cls d _ H => E cls d H) body D) :
    FnP P w K mg base (L2M.CX false P w) (k + 1) f fd ps (fun p => spD (S.pin p) ps.length (fnG N.length ps.length D)) := by
  refine fnP_of F Sc (fun p vs H Q E h => ?_) (fun cdv A outer s H vs Q E p hr hot h => ?_)
  · obtain ⟨_, _, _, _, h, _⟩ := h
    exact h
  · obtain ⟨ds, io, μ, F0, hl, I, r, q⟩ := h
    obtain ⟨t, pp, kk⟩ := (hb io.length cdv A outer s H E p hr hot).ex
    refine ⟨t, pp, kk (start N.length ds) (L2.start N vs) ⟨io, F0, H⟩ μ _ ((SI_at (S := S.pin p) (n := io.length)).mpr I) (start_ok (S := at0 (S.pin p) io.length) ((reps_at ds).mpr r)) ?_⟩
    have e : ds.length = ps.length := r.len.trans hl
    have q : CQ (S.pin p) ⟨io, F0, H⟩ Q E (if ds.length = ps.length then fin μ.length (D (start N.length ds) μ) else .stuck) := q
    rw [if_pos e, show μ.length = io.length from I.len.symm] at q
    exact body_of (S := S.pin p) rfl q
end
section
variable {X : Cx} {S S0 : Sx} {n : Nat} {W : WX} {e tg : Expr} {es : List Expr} {d : DE} {dt : DT} {ds : DA} {pos q : Pos} {k kr np : Nat} {x : Str} {G : GF} {p : Addr × Obj}
theorem pd_cP (C : CalP X.prog X.w X.K X.mg X.base (at0 S0 0) k x np G) (hr : RoomH kr X.A) (hk : k ≤ kr) (hot : Hot1 X.A p) (hp : p ∈ X.pn) (tk : L2M.Takes false X W) (hg : Gl X x) (ha : PDA X ((at0 S0 n).pin p) W (e :: es) ds)
    (hdb : (x == ("__debug__" : Str)) = false := by decide) (he : starEach (e :: es) X.env = (false, eval e X.env) :: starEach es X.env := by rfl) (hpl : (backTo pos (starEach es X.env)).any (·.1) = false := by rfl) :
    PDE X ((at0 S0 n).pin p) W (.Call (.Name x q) (e :: es) [] pos) (dCall np G [] ds) := by
  obtain ⟨f, fd, ps, hm, kp, hb, F⟩ := C.ex
  obtain ⟨t, pa, ka⟩ := ha.ex
  refine ⟨_, pe_callP F (hr.mono hk) hot hp hg hm kp hb (fun σ => L2M.passAt tk σ) pa hdb he hpl, fun env σ c μ Q I en z => ?_⟩
  refine (show t σ c.H fun vs H1 => spD ((at0 S0 0).pin p) np G vs H1 Q (WE W σ) from ?_)
  refine bindAE (fun Q' => ka env σ c μ Q' I en) z fun l μ1 vs c1 s1 I1 r1 q1 => ?_
  rw [List.append_nil] at q1
  by_cases hn : l.length = np
  · rw [if_pos hn] at q1
    obtain ⟨ds', io, μ', F', k1, k2, k3, k4⟩ := call_sp (S := (at0 S0 n).pin p) I1 r1 hn q1
    refine ⟨ds', io, μ', F', k1, (SI_at (S := (at0 S0 n).pin p) (n := 0)).mpr k2, (reps_at (S := (at0 S0 n).pin p) (n := 0) _).mpr k3, ?_⟩
    cases eo : G ds' μ' with
    | ok d μ2 => rw [eo] at k4; exact fun v c' s ei I' r' => k4 v c' s ei ((SI_at (S := (at0 S0 n).pin p) (n := 0)).mp I') ((rep_at (S := (at0 S0 n).pin p) (n := 0) _).mp r')
    | ex y ns l' μ2 => rw [eo] at k4; exact fun dd c' s ei I' r' => k4 dd c' s ei ((SI_at (S := (at0 S0 n).pin p) (n := 0)).mp I') ((xrep_at (S := (at0 S0 n).pin p) (n := 0)).mp r')
    | stuck => rw [eo] at k4; exact k4
  · rw [if_neg hn] at q1; exact False.elim q1
/-! ### a comprehension there -/
structure PDIH (X : Cx) (S : Sx) (W : WX) (tg iter : Expr) (di : DI) : Prop where
  ex : ∃ wi, PIH X tg iter wi ∧ ∀ env σ c μ R, SI S c μ → EnvOk S c env σ → IQ S W σ c R (di env μ) → wi σ c.H R
theorem pdiH_range1 {a : Expr} {p : Pos} (hg : Gl X "range") (hm : X.mg "range" = none) (ha : PDA X S W [a] ds) (hs : starEach [a] X.env = [(false, eval a X.env)] := by rfl) : PDIH X S W tg (.Call (.Name "range" p) [a] [] pos) (iRng ds) := by
  obtain ⟨ta, pa, ka⟩ := ha.ex
  refine ⟨_, pi_range1H hg hm pa hs, fun env σ c μ R I en q => ?_⟩
  refine (show ta σ c.H fun vs H1 => ∃ j : Int, vs = [.int j] ∧ -(2 ^ 62) ≤ j ∧ j < 2 ^ 62 ∧ R (Itr 0 j.toNat) H1 from ?_)
  refine bindAI (fun Q' => ka env σ c μ Q' I en) q fun x μ1 v c1 s1 I1 r1 q1 => ?_
  split at q1
  · rename_i n
    by_cases h : -(2 ^ 62) ≤ n ∧ n < 2 ^ 62
    · rw [if_pos h] at q1
      obtain ⟨y, r, rfl, h1, h2⟩ := r1.uncons
      rw [h2.eq_nil, rep_int.mp h1]
      exact ⟨n, rfl, h.1, h.2, q1 _ c1 I1.step I1 walkD_iota⟩
    · rw [if_neg h] at q1; exact False.elim q1
  · exact False.elim q1
theorem pd_lcH {iter : Expr} {ifs : List Expr} {scope : Scope} {own : List (Str × Nat)} {di : DI} {dg : DG} {js : List Nat} (hot : HotC X) (hN : X.N.Nodup) (hi : PDIH X S W tg iter di) (ok : BlkOk X.N X.env.scope scope own) (hjs : ∀ j ∈ js, j ∈ own.map (·.2))
    (hg : ∀ (s : Shared) (H : Hp) (C : Addr) (cl : List (Str × Addr)) (fp : List Addr), PDG (blkP X s H scope (compEnvC scope cl C X.env) fp) S tg dg js) (ht : ∀ (s : Shared) (H : Hp) (C : Addr) (cl : List (Str × Addr)) (fp : List Addr), PDTs (blkP X s H scope (compEnvC scope cl C X.env) fp) S wNo ifs dt)
    (he : ∀ (s : Shared) (H : Hp) (C : Addr) (cl : List (Str × Addr)) (fp : List Addr), PDE (blkP X s H scope (compEnvC scope cl C X.env) fp) S wNo e d) (hs : ∀ x, foldedSetIterable iter X.env x = pure x := by intro _; rfl) :
    PDE X S W (.ListComp e [⟨tg, iter, ifs, 0⟩] scope pos) (dLcF di dg dt d (own.map (·.2))) := by
  obtain ⟨wi, pi, ki⟩ := hi.ex
  refine ⟨_, ⟨fun pins s σ H Q I h => lcP hot hN I pi ok (fun s H C cl fp => (hg s H C cl fp).pg) (fun s H C cl fp => (ht s H C cl fp).pts) (fun s H C cl fp => (he s H C cl fp).pe) hs h⟩, fun env σ c μ Q I en q => ?_⟩
  refine lc_run hjs ki env σ c μ Q I en ?_
  unfold dLcF at q
  cases e1 : dLc di dg dt d (own.map (·.2)) env μ with
  | stuck => rw [e1] at q; exact q
  | ex x ns l μ1 => rw [e1] at q; exact q
  | ok l μ1 =>
    rw [e1] at q
    intro p c' xs c1 s1 hp s' I' g' h' r'
    obtain ⟨I2, s2, r2⟩ := I'.froz g' h' r' s' hp
    exact q _ ⟨c'.io, upd c'.F p (.lst xs), c'.H⟩ (s1.trans s2) I2 r2
end
/-! ### try: .. except u as n: .. -/
def endX (i : Nat) : SO → SO
  | .nx e μ => if ((e.set i none).all noXO && μ.all noXM) = true then .nx (e.set i none) μ else .stuck
  | .bk e μ => if ((e.set i none).all noXO && μ.all noXM) = true then .bk (e.set i none) μ else .stuck
  | .ct e μ => if ((e.set i none).all noXO && μ.all noXM) = true then .ct (e.set i none) μ else .stuck
  | .rt d μ => if (noX d && μ.all noXM) = true then .rt d μ else .stuck
  | _ => .stuck
def dTry (xs : List Str) (u : Str) (i : Nat) (body suite : DS) : DS := fun env μ => match body env μ with
  | .ex x ns l e μ1 => if xs.contains x = true then (if exSub x (.inr u) = true then endX i (suite (e.set i (some (.exc x ns l))) μ1) else .ex x ns l e μ1) else .stuck
  | o => o
section
variable {X : Cx} {S : Sx} {W : WX}
theorem endX_run {c : Cf} {E : Ends} {q : Addr × Obj} {i : Nat} : ∀ {o : SO}, SQ S W c E (endX i o) → SQ (S.pin q) wNo c { nx := fun σ' H' => E.nx (σ'.set i none) H', rt := E.rt, bk := fun σ' H' => E.bk (σ'.set i none) H', ct := fun σ' H' => E.ct (σ'.set i none) H' } o
  | .nx e μ, h => fun σ' c' s I en => by
    dsimp only [endX] at h
    by_cases z : ((e.set i none).all noXO && μ.all noXM) = true
    · rw [if_pos z] at h
      obtain ⟨z1, z2⟩ := Bool.and_eq_true_iff.mp z
      exact h _ c' s.pin (I.unpin z2) ((en.del i).unpin z1)
    · rw [if_neg z] at h; exact h.elim
  | .bk e μ, h => fun σ' c' s I en => by
    dsimp only [endX] at h
    by_cases z : ((e.set i none).all noXO && μ.all noXM) = true
    · rw [if_pos z] at h
      obtain ⟨z1, z2⟩ := Bool.and_eq_true_iff.mp z
      exact h _ c' s.pin (I.unpin z2) ((en.del i).unpin z1)
    · rw [if_neg z] at h; exact h.elim
  | .ct e μ, h => fun σ' c' s I en => by
    dsimp only [endX] at h
    by_cases z : ((e.set i none).all noXO && μ.all noXM) = true
    · rw [if_pos z] at h
      obtain ⟨z1, z2⟩ := Bool.and_eq_true_iff.mp z
      exact h _ c' s.pin (I.unpin z2) ((en.del i).unpin z1)
    · rw [if_neg z] at h; exact h.elim
  | .rt d μ, h => fun v c' s I r => by
    dsimp only [endX] at h
    by_cases z : (noX d && μ.all noXM) = true
    · rw [if_pos z] at h
      obtain ⟨z1, z2⟩ := Bool.and_eq_true_iff.mp z
      exact h v c' s.pin (I.unpin z2) (rep_unpin d z1 r)
    · rw [if_neg z] at h; exact h.elim
  | .ex _ _ _ _ _, h => False.elim h
  | .stuck, h => False.elim h
def tSd (S : Sx) (W : WX) (d : DS) : TS := fun E σ H => ∃ env c μ, c.H = H ∧ SI S c μ ∧ EnvOk S c env σ ∧ SQ S W c E (d env μ)
theorem PDSs.psd {st : List Stmt} {d : DS} (h : PDSs X S W st d) : PSs X st (tSd S W d) := by
  obtain ⟨t, p, k⟩ := h.ex
  refine ⟨fun pins s σ H E I z => ?_⟩
  obtain ⟨env, c, μ, rfl, i, en, q⟩ := z
  exact p.run pins s σ _ E I (k env σ c μ E i en q)
theorem pds_try {xs : List Str} {u n : Str} {i : Nat} {body suite : List Stmt} {b₀ : Stmt} {np pos pos' : Pos} {db ds : DS} (hK : X.K = S.K) (hs : X.stack = X.env :: X.outer) (hf : X.env.frame = some X.env.locals) (hN : X.N.Nodup) (hi : X.N[i]? = some n) (hln : X.env.kindOf n = some .local)
    (hg : Gl X u) (hm : X.mg u = some (.ref (S.A u))) (hx : ExmF S xs u) (tk : L2M.Takes false X W)
    (hb : ∀ (W' : WX) (pn : List (Addr × Obj)) (xe : Value → Shared → Prop), L2M.Takes false (X.tr pn xe) W' → PassesOwn (model X.prog X.w) X.A X.env xe → PDSs (X.tr pn xe) S W' body db)
    (hsu : ∀ (a : Addr) (oe : Obj) (pn : List (Addr × Obj)), (∃ vs : Array Value, oe.data = .fields vs ∧ vs[2]? = some .none) → PDSs (X.suite a ((a, oe) :: pn)) (S.pin (a, oe)) wNo (b₀ :: suite) ds) (hdb : (u == ("__debug__" : Str)) = false := by decide) :
    PDS X S W (.Try body [.ExceptHandler (some (.Name u np)) (some n) (b₀ :: suite) pos'] [] [] pos) (dTry xs u i db ds) := by
  refine ⟨_, L2N.ps_try_as (tb := fun W' => tSd S W' db) (ts := fun a cls d E σ H => ∀ oe : Obj, L2N.Zn cls d oe → (∃ vs, oe.data = .fields vs) → tSd (S.pin (a, oe)) wNo ds E σ H) hs hf hN hi hln ⟨hg, hdb, .inl hm⟩ tk (fun W' pn xe tk' po => (hb W' pn xe tk' po).psd)
    (fun a oe cls d pn hz hv => ⟨fun pins s σ H E I h => ?_⟩), fun env σ c μ E I en q => ?_⟩
  · obtain ⟨vs, hv'⟩ := hv
    exact (hsu a oe pn ⟨vs, hv', hz.2.2 vs hv'⟩).psd.run pins s σ H E I (h oe hz ⟨vs, hv'⟩)
  · refine ⟨env, c, μ, rfl, I, en, ?_⟩
    unfold dTry at q
    cases e : db env μ with
    | nx e1 μ1 => rw [e] at q; exact q
    | bk e1 μ1 => rw [e] at q; exact q
    | ct e1 μ1 => rw [e] at q; exact q
    | rt d1 μ1 => rw [e] at q; exact q
    | stuck => rw [e] at q; exact q
    | ex x ns l e1 μ1 =>
      rw [e] at q
      dsimp only at q
      by_cases hm : xs.contains x = true
      · rw [if_pos hm] at q
        intro dd σ' c' s' I' en' xr
        have m : x ∈ xs := List.contains_iff_mem.mp hm
        refine ⟨exSub x (.inr u), by rw [hK]; exact hx x m, fun hb1 a na => ?_, fun hb0 => ?_⟩
        · rw [if_pos hb1] at q
          intro oe hz hv
          have r : rep (S.pin (a, oe)) c'.io c'.F (.exc x ns l) (.ref a) := by
            unfold rep
            refine ⟨a, oe, dd, rfl, List.mem_cons_self, hz.zc, hv, ?_⟩
            rcases xr with h | ⟨da, fs, h1, h2, h3, h4⟩
            · exact .inl h
            · exact .inr ⟨da, fs, h1, h2, h3, reps_pin l h4⟩
          exact ⟨e1.set i (some (.exc x ns l)), c', μ1, rfl, I'.pin, en'.pin.set r i, endX_run (SQ.step s' q)⟩
        · rw [if_neg (by rw [hb0]; exact Bool.false_ne_true)] at q
          exact q dd σ' c' s' I' en' xr
      · rw [if_neg hm] at q; exact q.elim
/-- nothing is let out -/
theorem takes_wNo {md : Bool} : L2M.Takes md X wNo := match md with
  | true => fun _ _ ⟨_, _, _, _, _, _, _, _, _, _, _, _, _, _, _, _, z⟩ => z.elim
  | false => fun _ _ ⟨_, _, _, _, _, _, _, _, _, _, _, _, _, _, _, _, z⟩ => z.elim
theorem hot_suite {a : Addr} {oe : Obj} (h : ∃ vs : Array Value, oe.data = .fields vs ∧ vs[2]? = some .none) : Hot1 (X.A.mark (some (.ref a))) (a, oe) := ⟨rfl, h⟩
end
end DL
namespace DL
open PySem PySem.Spec PyProof.Rows L2 L2P L2H
section
variable {X : Cx} {S : Sx} {W : WX}
theorem pds_tryH {xs : List Str} {u n : Str} {i : Nat} {body suite : List Stmt} {b₀ : Stmt} {np pos pos' : Pos} {db ds : DS} (h0 : S.pn = []) (hK : X.K = S.K) (hs : X.stack = X.env :: X.outer) (hf : X.env.frame = some X.env.locals) (hN : X.N.Nodup) (hi : X.N[i]? = some n) (hln : X.env.kindOf n = some .local)
    (hg : Gl X u) (hm : X.mg u = some (.ref (S.A u))) (hx : ExmF S xs u) (tk : L2M.Takes false X W)
    (hb : ∀ (W' : WX) (pn : List (Addr × Obj)) (xe : Value → Shared → Prop), L2M.Takes false (X.tr pn xe) W' → PassesOwn (model X.prog X.w) X.A X.env xe → PDSs (X.tr pn xe) S W' body db)
    (hsu : ∀ (a : Addr) (oe : Obj) (pn : List (Addr × Obj)), Hot1 (X.A.mark (some (.ref a))) (a, oe) → (a, oe) ∈ (X.suite a ((a, oe) :: pn)).pn → (∀ q ∈ (S.pin (a, oe)).pn, q ∈ (X.suite a ((a, oe) :: pn)).pn) → HotC (X.suite a ((a, oe) :: pn)) →
      PDSs (X.suite a ((a, oe) :: pn)) (S.pin (a, oe)) wNo (b₀ :: suite) ds) (hdb : (u == ("__debug__" : Str)) = false := by decide) :
    PDS X S W (.Try body [.ExceptHandler (some (.Name u np)) (some n) (b₀ :: suite) pos'] [] [] pos) (dTry xs u i db ds) :=
  pds_try hK hs hf hN hi hln hg hm hx tk hb (fun a oe pn hv => hsu a oe pn (hot_suite hv) List.mem_cons_self (fun q h => by
    have h : q ∈ (a, oe) :: S.pn := h
    rw [h0] at h
    rcases List.mem_cons.mp h with h | h
    · rw [h]; exact List.mem_cons_self
    · exact absurd h List.not_mem_nil) ⟨(a, oe), hot_suite hv, List.mem_cons_self⟩) hdb
end
end DL
namespace DL
open PySem PySem.Spec PyProof.Rows L2
mutual
theorem noX_clean : ∀ d : D, clean 0 d = true → noX d = true
  | .tup l, h => by unfold clean at h; unfold noX; exact noXs_clean l h
  | .lst l, h => by unfold clean at h; unfold noX; exact noXs_clean l h
  | .dct ks l, h => by unfold clean at h; unfold noX; exact noXs_clean l h
  | .obj c ns l, h => by unfold clean at h; unfold noX; exact noXs_clean l h
  | .exc c ns l, h => by unfold clean at h; cases h
  | .cel i, _ => rfl
  | .non, _ => rfl
  | .txt, _ => rfl
  | .bl _, _ => rfl
  | .int _, _ => rfl
  | .str _, _ => rfl
  | .ty _, _ => rfl
  | .glo _, _ => rfl
  | .scr _, _ => rfl
theorem noXs_clean : ∀ l : List D, cleans 0 l = true → noXs l = true
  | [], _ => rfl
  | d :: l, h => by
    unfold cleans at h
    have h' := Bool.and_eq_true_iff.mp h
    unfold noXs
    rw [noX_clean d h'.1, noXs_clean l h'.2]; rfl
end
theorem cln_noX {μ : List M} (h : Cln μ) : μ.all noXM = true := List.all_eq_true.mpr fun m hm => by
  have k := h m hm
  cases m with
  | lst l => exact noXs_clean l k
  | dct ks l => exact noXs_clean l k
  | obj c ns l => exact noXs_clean l k
  | dead => rfl
section
variable {X : XP} {μ m : List M} {env : En} {N : En → List M → Prop} {R : D → List M → Prop} {B C : En → List M → Prop} {Z : Str → List Str → List D → En → List M → Prop} {ks : Ks N R B C Z}
theorem s_endX {i : Nat} {o : SO} : WS (endX i o) N R B C Z ks = WS o (fun e m => (((e.set i none).all noXO && m.all noXM) = true ∧ N (e.set i none) m)) (fun d m => (noX d && m.all noXM) = true ∧ R d m)
    (fun e m => (((e.set i none).all noXO && m.all noXM) = true ∧ B (e.set i none) m)) (fun e m => (((e.set i none).all noXO && m.all noXM) = true ∧ C (e.set i none) m)) (fun _ _ _ _ _ => False) ⟨⟩ := by
  cases o with
  | nx e m =>
    show WS (if _ then _ else _) N R B C Z ks = (_ ∧ _)
    by_cases h : ((e.set i none).all noXO && m.all noXM) = true
    · rw [if_pos h]; exact propext ⟨fun q => ⟨h, q⟩, fun q => q.2⟩
    · rw [if_neg h]; exact propext ⟨fun q => q.elim, fun q => absurd q.1 h⟩
  | bk e m =>
    show WS (if _ then _ else _) N R B C Z ks = (_ ∧ _)
    by_cases h : ((e.set i none).all noXO && m.all noXM) = true
    · rw [if_pos h]; exact propext ⟨fun q => ⟨h, q⟩, fun q => q.2⟩
    · rw [if_neg h]; exact propext ⟨fun q => q.elim, fun q => absurd q.1 h⟩
  | ct e m =>
    show WS (if _ then _ else _) N R B C Z ks = (_ ∧ _)
    by_cases h : ((e.set i none).all noXO && m.all noXM) = true
    · rw [if_pos h]; exact propext ⟨fun q => ⟨h, q⟩, fun q => q.2⟩
    · rw [if_neg h]; exact propext ⟨fun q => q.elim, fun q => absurd q.1 h⟩
  | rt d m =>
    show WS (if _ then _ else _) N R B C Z ks = (_ ∧ _)
    by_cases h : (noX d && m.all noXM) = true
    · rw [if_pos h]; exact propext ⟨fun q => ⟨h, q⟩, fun q => q.2⟩
    · rw [if_neg h]; exact propext ⟨fun q => q.elim, fun q => absurd q.1 h⟩
  | ex x ns l e m => rfl
  | stuck => rfl
theorem s_try {xs : List Str} {u : Str} {i : Nat} {b s : DS} : WS (dTry xs u i b s env μ) N R B C Z ks = WS (b env μ) N R B C (fun x ns l e m => xs.contains x = true ∧ (if exSub x (.inr u) = true then WS (endX i (s (e.set i (some (.exc x ns l))) m)) N R B C Z ⟨⟩ else Z x ns l e m)) ⟨⟩ := by
  unfold dTry
  cases b env μ with
  | ex x ns l e m =>
    show WS (if _ then _ else _) N R B C Z ks = (_ ∧ _)
    by_cases h : xs.contains x = true
    · rw [if_pos h]
      by_cases h2 : exSub x (.inr u) = true
      · rw [if_pos h2, if_pos h2]; exact propext ⟨fun q => ⟨h, q⟩, fun q => q.2⟩
      · rw [if_neg h2, if_neg h2]; exact propext ⟨fun q => ⟨h, q⟩, fun q => q.2⟩
    · rw [if_neg h]; exact propext ⟨fun q => q.elim, fun q => absurd q.1 h⟩
  | _ => rfl
def isxt (xs us : List Str) : D → Option D
  | .exc x _ _ => if xs.contains x = true then some (.bl (exSubs x us)) else none
  | _ => none
theorem w_isXT {xs us : List Str} {da : DE} {Q : D → List M → Prop} {k : Kt Q X} : WO (dIsXT xs us da env μ) Q X k = WO (da env μ) (fun x m1 => OP (isxt xs us x) (fun d => Q d m1) ⟨⟩) X ⟨⟩ := by
  unfold dIsXT
  cases da env μ with
  | ok x m1 =>
    cases x with
    | exc x ns l =>
      show WO (if xs.contains x = true then Out.ok (D.bl (exSubs x us)) m1 else .stuck) Q X k = OP (if xs.contains x = true then some (D.bl (exSubs x us)) else none) (fun d => Q d m1) ⟨⟩
      by_cases h : xs.contains x = true
      · rw [if_pos h, if_pos h]; rfl
      · rw [if_neg h, if_neg h]; rfl
    | _ => rfl
  | ex _ _ _ _ => rfl
  | stuck => rfl
end
end DL
set_option maxHeartbeats 1000000
namespace DL
open PySem PySem.Spec PyProof.Rows L2 Builtin.Str
/-! ### str(x) of a tuple of two numbers: some text, which one is not known (a repr of it may be under way) -/
section
variable {X : Cx} {S : Sx}
/-! ### t + u -/
def opAddT (μ : List M) : D → D → Option D
  | .tup l, .tup l' => if l.length + l'.length ≤ 100000 then some (.tup (l ++ l')) else none
  | x, y => opAdd μ x y
theorem po_addT (hK : X.K = S.K) : PDO X S (binaryOp .Add) opAddT := by
  obtain ⟨r, h1, h2⟩ := (po_add (X := X) (S := S)).ex
  refine ⟨fun x y H Q => rCatA X.K x y H Q ∨ r x y H Q, OpR.or op_catA h1, ?_⟩
  intro c μ x y d1 d2 d Q I r1 r2 e k
  unfold opAddT at e
  split at e
  · rename_i l l'
    split at e
    · rename_i hl
      obtain rfl := Option.some.inj e
      have r1' := r1
      have r2' := r2
      unfold rep at r1 r2
      obtain ⟨a, xs, rfl, ha, k1⟩ := r1
      obtain ⟨b, ys, rfl, hb, k2⟩ := r2
      refine .inl ⟨a, b, xs, ys, rfl, rfl, by rw [hK]; exact ex_t I.ex ha, by rw [hK]; exact ex_t I.ex hb, by rw [← k1.len, ← k2.len]; exact sz_of hl, fun hx => ?_, fun hx hy => ?_, fun hx hy p hp => new_tup I (k1.append k2) k hp⟩
      · subst hx
        have : l = [] := List.eq_nil_of_length_eq_zero k1.len
        subst this
        exact k _ c I.step I r2'
      · subst hy
        have : l' = [] := List.eq_nil_of_length_eq_zero k2.len
        subst this
        rw [List.append_nil] at k
        exact k _ c I.step I r1'
    · cases e
  · exact .inr (h2 c μ x y d1 d2 d Q I r1 r2 e k)
end
end DL
set_option maxHeartbeats 1000000
namespace DL
open PySem PySem.Spec PyProof.Rows L2
/-! ### B.__init__(self, ..), B an own class over ValueError that has no __init__ of its own -/
/-! ### C(..), C an own class over ValueError with an own __init__ -/
section
variable {X : Cx} {S : Sx} {W : WX} {md : Bool} {x : Str} {C fI : Addr} {k n : Nat} {fd : FuncData} {ps : List Str} {fl : List (Str × Nat)} {e : Expr} {es : List Expr} {p pos pos2 : Pos} {dd : List D} {ds : DA}
/-- raise C(..): the fields of C by its __init__ -/
def sRaiseI (x : Str) (n : Nat) (fl : List (Str × Nat)) (dd : List D) (ds : DA) : DS := fun env μ => (ds env μ).bindS env fun l μ1 => if (l ++ dd).length = n then (if l.length ≤ 1000 then .ex x (fl.map (·.1)) (fl.map fun p => (l ++ dd).getD p.2 .non) env μ1 else .stuck) else .stuck
end
/-! ### such an __init__ -/
/-! ### what a class must have, as a check -/
end DL
set_option maxHeartbeats 2000000
/-! ### try: .. except (A, B): .., where the suite is not come to: other exceptions pass -/
namespace DL
open PySem PySem.Spec PyProof.Rows L2
def dTryP (xs : List Str) (u1 u2 : Str) (body : DS) : DS := fun env μ => match body env μ with
  | .ex x ns l e μ1 => if (xs.contains x && (!exSub x (.inr u1) && !exSub x (.inr u2))) = true then .ex x ns l e μ1 else .stuck
  | o => o
end DL
set_option maxHeartbeats 1000000
namespace DL
open PySem PySem.Spec PyProof.Rows L2
/-! ### readings -/
section
variable {env : En} {μ : List M} {N : En → List M → Prop} {R : D → List M → Prop} {B C : En → List M → Prop} {Z : Str → List Str → List D → En → List M → Prop} {ks : Ks N R B C Z} {x u1 u2 : Str} {n : Nat} {fl : List (Str × Nat)} {dd : List D} {ds : DA} {xs : List Str} {b : DS}
theorem s_raiseI : WS (sRaiseI x n fl dd ds env μ) N R B C Z ks = WO (ds env μ) (fun l m => (l ++ dd).length = n ∧ l.length ≤ 1000 ∧ Z x (fl.map (·.1)) (fl.map fun p => (l ++ dd).getD p.2 .non) env m) (fun c ns l m => Z c ns l env m) ⟨⟩ := by
  unfold sRaiseI
  rw [w_bindS]
  refine wo_cong fun l m => ?_
  by_cases h : (l ++ dd).length = n
  · rw [if_pos h]
    by_cases h2 : l.length ≤ 1000
    · rw [if_pos h2]; exact propext ⟨fun q => ⟨h, h2, q⟩, fun q => q.2.2⟩
    · rw [if_neg h2]; exact propext ⟨fun q => q.elim, fun q => absurd q.2.1 h2⟩
  · rw [if_neg h]; exact propext ⟨fun q => q.elim, fun q => absurd q.1 h⟩
theorem s_tryP : WS (dTryP xs u1 u2 b env μ) N R B C Z ks = WS (b env μ) N R B C (fun x ns l e m => (xs.contains x && (!exSub x (.inr u1) && !exSub x (.inr u2))) = true ∧ Z x ns l e m) ⟨⟩ := by
  unfold dTryP
  cases b env μ with
  | ex x ns l e m =>
    show WS (if _ then _ else _) N R B C Z ks = (_ ∧ _)
    by_cases h : (xs.contains x && (!exSub x (.inr u1) && !exSub x (.inr u2))) = true
    · rw [if_pos h]; exact propext ⟨fun q => ⟨h, q⟩, fun q => q.2⟩
    · rw [if_neg h]; exact propext ⟨fun q => q.elim, fun q => absurd q.1 h⟩
  | _ => rfl
end
end DL
/-! ### a list, a dict among texts: none of them is equal to it -/
namespace PySem.SeqAt
open AutoSeq1 (wpAny_loadPart')
open MeetsSeq
theorem dict_eq_declines_str (l : Addr) (es : Array DictEntry) (n : Nat) (dd : Option Addr) (sl : Array (Option Value)) (b : Str) (u : Tok) :
    Meets (Builtin.«dict.__eq__» ⟨[.ref l, .str b u], []⟩) (fun _ R s => s.heap.get? l = some { cls := .type "dict", dict := dd, data := .dict es n, slots := sl } ∧ R (.ok (.ret .notImplemented)) s) :=
  .of_wp fun prog w A R s h => by
    obtain ⟨hp, g, d, tk, os⟩ := s; obtain ⟨hl, h⟩ := h
    have f1 := F.sub_str_dict
    wp_walk using wpAny_loadPart' hl
    exact ⟨_, rfl, h⟩
theorem str_eq_declines_dict (b : Str) (u : Tok) (l : Addr) (c : Value) (es : Array DictEntry) (n : Nat) (dd : Option Addr) (sl : Array (Option Value)) :
    Meets (Builtin.«str.__eq__» ⟨[.str b u, .ref l], []⟩) (fun _ R s => s.heap.get? l = some { cls := c, dict := dd, data := .dict es n, slots := sl } ∧ R (.ok (.ret .notImplemented)) s) :=
  .of_wp fun prog w A R s h => by obtain ⟨hp, g, d, tk, os⟩ := s; obtain ⟨hl, h⟩ := h; wp_walk using wpAny_loadPart' hl, wpAny_load hl; exact ⟨_, rfl, h⟩
variable {A : Around} {s : Shared}
theorem RcAt.str_dict {l : Addr} {es : Array DictEntry} {n : Nat} {dd : Option Addr} {sl : Array (Option Value)} (b : Str) (u : Tok) (ho : s.heap.get? l = some { cls := .type "dict", dict := dd, data := .dict es n, slots := sl }) (hu : A.units < cLine) : RcAt A s (.str b u) (.ref l) false := fun prog w E Q h => by
  exact rc_eq_decline_or (k := false) (typeIs_str s b u) ⟨_, ho, rfl⟩ (by decide) F.sub_dict_str F.slot_str_eq F.slot_dict_eq_refl
    (fun _ hq => call_meets F.slot_str_eq (typeIs_str s b u) F.entry_str_eq (F.args_str_eq_2 _ _) (str_eq_declines_dict b u l (.type "dict") es n dd sl) ⟨ho, hq⟩)
    (fun _ hq => call_meets F.slot_dict_eq_refl ⟨_, ho, rfl⟩ F.entry_dict_eq (F.args_dict_eq_2 _ _) (dict_eq_declines_str l es n dd sl b u) ⟨ho, hq⟩)
    (fun _ hq => wpAny_of_eq (rfl : isSame (.str b u) (.ref l) = pure false) hq) (.inr hu) h
theorem EqAt.str_dict {l : Addr} {es : Array DictEntry} {n : Nat} {dd : Option Addr} {sl : Array (Option Value)} (b : Str) (u : Tok) (ho : s.heap.get? l = some { cls := .type "dict", dict := dd, data := .dict es n, slots := sl }) (hu : A.units < cLine) : EqAt A s (.str b u) (.ref l) false := fun prog w E Q h => by
  unfold eqBool
  refine wpAny_holding ?_
  refine wpAny_ite_split (fun hab => absurd (eq_of_beq hab) nofun) (fun _ => ?_)
  exact wpAny_bind (RcAt.str_dict b u ho hu prog w E _ (wpAny_truthy_bool h))
end PySem.SeqAt
namespace DL
open PySem PySem.Spec PyProof.Rows L2
section
variable {X : Cx} {S : Sx}
/-- a list, a dict -/
def OddV (K : PySem.W.Frag) (H : Hp) (x : V) : Prop := (∃ a xs, x = .ref a ∧ SqL K H a xs) ∨ ∃ a kvs, x = .ref a ∧ H a = some (.dK kvs)
theorem odd_at {pins : List (Addr × Obj)} {σ : St} {H : Hp} {s : Shared} {x : V} {v : Value} {A : Around} (I : Inv X pins σ H s) (h : OddV X.K H x) (r : RelV x v) (hu : A.units < cLine) (b : Str) (t : Tok) : SeqAt.EqAt A s (.str b t) v false := by
  rcases h with ⟨a, xs, rfl, h⟩ | ⟨a, kvs, rfl, h⟩
  · cases r
    obtain ⟨its, r, pl, hz⟩ := I.list h
    exact SeqAt.EqAt.str_list b t pl.isList hu
  · cases r
    obtain ⟨z, y, vs, r, o, es, ep, e, hx, hd, _⟩ := I.hok a _ h
    obtain ⟨cls, dd, data, sl⟩ := o
    have hc := hx
    obtain ⟨rfl, _⟩ := hc
    obtain rfl : data = .dict es ep := hd
    exact SeqAt.EqAt.str_dict b t e hu
/-- x in a list or a tuple of texts, x a list or a dict -/
def rInO (K : PySem.W.Frag) (neg : Bool) : R2 := fun x y H Q => ∃ p xs, y = .ref p ∧ (SqL K H p xs ∨ SqT K H p xs) ∧ OddV K H x ∧ (∀ z ∈ xs, ∃ b, z = V.str b) ∧ Q (.bl neg) H
theorem vals_str {xs : List V} {us : List Value} (r : Vals xs us) (h : ∀ z ∈ xs, ∃ b, z = V.str b) : ∀ u ∈ us, ∃ b t, u = Value.str b t := by
  induction r with
  | nil => exact fun u hu => absurd hu List.not_mem_nil
  | cons r1 r2 ih =>
    intro u hu
    rcases List.mem_cons.mp hu with rfl | hu
    · obtain ⟨b, rfl⟩ := h _ List.mem_cons_self
      obtain ⟨t, rfl⟩ := r1
      exact ⟨b, t, rfl⟩
    · exact ih (fun z hz => h z (List.mem_cons_of_mem _ hz)) u hu
theorem any_no (us : List Value) : us.toArray.any (fun _ => false) = false := by
  rw [List.any_toArray]
  induction us with
  | nil => rfl
  | cons u us ih => rw [List.any_cons, ih]; rfl
theorem op_inO {neg : Bool} (hu : X.A.units + 2 < cLine) : OpR X (compareOp (if neg then .NotIn else .In)) (rInO X.K neg) := by
  intro pins s σ H x y v u Q I rx ry h
  obtain ⟨p, xs, rfl, hq, ho, hs, q⟩ := h
  cases ry
  have go : ∀ {its : List Value}, Vals xs its → ∀ w ∈ its.toArray, SeqAt.EqAt X.A.in1 s w v ((fun _ : Value => false) w) := fun {its} r w hw => by
    obtain ⟨b, t, rfl⟩ := vals_str r hs w (by simpa using hw)
    exact odd_at I ho rx (by show X.A.units + 1 < cLine; omega) b t
  rcases hq with hq | hq
  · obtain ⟨its, r, pl, hz⟩ := I.list hq
    cases neg with
    | false => exact SeqAt.in_listAt (fun _ => false) pl.isList (go r) ⟨.bl _, H, I, rfl, by rw [any_no]; exact q⟩
    | true => exact SeqAt.notIn_listAt (fun _ => false) pl.isList (go r) ⟨.bl _, H, I, rfl, by rw [any_no]; exact q⟩
  · obtain ⟨its, r, pl, hz⟩ := I.tuple hq
    cases neg with
    | false => exact SeqAt.in_tupleAt (fun _ => false) pl (go r) ⟨.bl _, H, I, rfl, by rw [any_no]; exact q⟩
    | true => exact SeqAt.notIn_tupleAt (fun _ => false) pl (go r) ⟨.bl _, H, I, rfl, by rw [any_no]; exact q⟩
def isTx : D → Bool
  | .str _ => true
  | _ => false
def inO (neg : Bool) (μ : List M) (y : D) : Option D := match seqOf μ y with
  | some l => if l.all isTx = true then some (.bl neg) else none
  | none => none
def opIn2 (neg : Bool) (μ : List M) (x y : D) : Option D := match x with
  | .lst _ => inO neg μ y
  | .dct _ _ => inO neg μ y
  | x => opIn neg μ x y
theorem po_notIn2 {kr : Nat} (hK : X.K = S.K) (hr : Room kr X.A) : PDO X S (compareOp .NotIn) (opIn2 true) := by
  obtain ⟨r, h1, h2⟩ := (po_notIn (X := X) (S := S) hK).ex
  refine ⟨fun x y H Q => rInO X.K true x y H Q ∨ r x y H Q, or_op (op_inO (neg := true) (by have := hr.un; omega)) h1, ?_⟩
  intro c μ x y d1 d2 d Q I r1 r2 e k
  have odd : OddV X.K c.H x → inO true μ d2 = some d → rInO X.K true x y c.H Q := fun ho e => by
    unfold inO at e
    cases es : seqOf μ d2 with
    | none => rw [es] at e; cases e
    | some l =>
      rw [es] at e
      obtain ⟨p, xs, rfl, h1, h2⟩ := seq_at I r2 es
      dsimp only at e
      by_cases h : l.all isTx = true
      · rw [if_pos h] at e
        obtain rfl := Option.some.inj e
        refine ⟨p, xs, rfl, by rw [hK]; exact h1, ho, fun z hz => ?_, k _ c I.step I (rep_bl.mpr rfl)⟩
        obtain ⟨i, hi, rfl⟩ := List.getElem_of_mem hz
        obtain ⟨dz, e1, e2⟩ := h2.getV (List.getElem?_eq_getElem hi)
        have e3 := List.all_eq_true.mp h dz (List.mem_of_getElem? e1)
        cases dz <;> first | (exact ⟨_, (rep_str.mp e2).1⟩) | cases e3
      · rw [if_neg h] at e; cases e
  cases d1 with
  | lst l =>
    refine .inl (odd (.inl ?_) e)
    unfold rep at r1
    obtain ⟨a, xs, rfl, h, _⟩ := r1
    exact ⟨a, xs, rfl, sq_of (I.ex _ _ h)⟩
  | dct ks l =>
    refine .inl (odd (.inr ?_) e)
    unfold rep at r1
    obtain ⟨a, kvs, rfl, h, _⟩ := r1
    exact ⟨a, kvs, rfl, I.ex _ _ h⟩
  | _ => exact .inr (h2 c μ x y _ d2 d Q I r1 r2 e k)
end
end DL
/-! ### the head's facts, with the classes' common record besides (reading an attribute off a class looks there) -/
namespace DL
open PySem PySem.Spec PyProof.Rows L2 He
end DL
namespace DL
open PySem PySem.Spec PyProof.Rows L2
/-! ### f'{x!r}' of an object whose class says how -/
section
variable {X : Cx} {S : Sx} {W : WX} {a b e : Expr} {da db d : DE} {pos p : Pos} {k : Nat} {C f : Addr} {fd : FuncData} {ps : List Str} {sp : Sp}
def dFmR (c : Str) (G : GF) (da : DE) : DE := fun env μ => (da env μ).bind fun x μ1 => if clsAt μ1 x = some c then (G [x] μ1).bind fun r μ2 => (match r with
  | .str z => if z.length ≤ 100000 then .ok (.str z) μ2 else .stuck
  | _ => .stuck) else .stuck
variable {S0 : Sx} {n : Nat} {kr : Nat} {G : GF} {c : Str}
/-! ### a choice of what an expression means -/
theorem pdt_sel {d : DT} {P : DT → Prop} (h : ∀ d', P d' → PDT X S W e d') (hs : ∀ env μ, (∃ d', P d' ∧ d env μ = d' env μ) ∨ d env μ = .stuck) : PDT X S W e d := by
  refine ⟨fun σ H Q => ∃ d', ∃ m : P d', Classical.choose (h d' m).ex σ H Q, ⟨fun pins s σ H Q I ⟨d', m, q⟩ => (Classical.choose_spec (h d' m).ex).1.run pins s σ H Q I q⟩, fun env σ c μ Q I en q => ?_⟩
  rcases hs env μ with ⟨d', m, e⟩ | e
  · rw [e] at q; exact ⟨d', m, (Classical.choose_spec (h d' m).ex).2 env σ c μ Q I en q⟩
  · rw [e] at q; exact q.elim
def selT {α : Type} : List (Str × α) → Option Str → Option α
  | [], _ => none
  | (x, y) :: l, o => if o = some x then some y else selT l o
/-! x == y, x != y -/
def dOwns (tb : List (Str × GF)) (da db : DE) : DE := fun env μ => (da env μ).bind fun x μ1 => (db env μ1).bind fun y μ2 => match selT tb (clsAt μ2 x) with
  | some G => if (tagOf μ2 y).isSome = true then (G [x, y] μ2).bind fun r μ3 => (match r with
    | .bl b => .ok (.bl b) μ3
    | _ => .stuck) else .stuck
  | none => .stuck
def dNes (tb : List (Str × GF)) (da db : DE) : DE := fun env μ => (da env μ).bind fun x μ1 => (db env μ1).bind fun y μ2 => match selT tb (clsAt μ2 x) with
  | some G => if (tagOf μ2 y).isSome = true then (G [x, y] μ2).bind fun r μ3 => (match r with
    | .bl b => .ok (.bl (!b)) μ3
    | _ => .stuck) else .stuck
  | none => .stuck
def dObSs (tb : List (Str × GF)) (da : DE) : DE := fun env μ => (da env μ).bind fun x μ1 => match selT tb (clsAt μ1 x) with
  | some G => (G [x] μ1).bind fun r μ2 => (match r with
    | .str z => .ok (.str z) μ2
    | _ => .stuck)
  | none => .stuck
def dMeths (m : Str) (tb : List (Str × Nat × GF × List D)) (da : DE) (ds : DA) : DE := fun env μ => (da env μ).bind fun x μ1 => match selT tb (clsAt μ1 x) with
  | some (np, G, dd) => if (fldAt μ1 m x).isNone = true then (ds env μ1).bind fun l μ2 => if (x :: (l ++ dd)).length = np then G (x :: (l ++ dd)) μ2 else .stuck
    else .stuck
  | none => .stuck
/-! ### x += e, whole numbers -/
def sAug (i : Nat) (de : DE) : DS := fun env μ => match env[i]?.join with
  | some (.int z) => (de env μ).bindS env fun y μ1 => match y with
    | .int u => .nx (env.set i (some (.int (z + u)))) μ1
    | _ => .stuck
  | _ => .stuck
end
/-! ### readings -/
section
variable {X : XP} {N : En → List M → Prop} {R : D → List M → Prop} {B C : En → List M → Prop} {Z : Str → List Str → List D → En → List M → Prop} {ks : Ks N R B C Z} {env : En} {μ : List M} {Q : D → List M → Prop} {k : Kt Q X}
theorem w_fmR {c : Str} {G : GF} {da : DE} : WO (dFmR c G da env μ) Q X k = WO (da env μ) (fun x m1 => clsAt m1 x = some c ∧ WO (G [x] m1) (fun r m3 => OP (isS r) (fun z => z.length ≤ 100000 ∧ Q (.str z) m3) ⟨⟩) X ⟨⟩) X ⟨⟩ := by
  unfold dFmR
  rw [w_bind]
  refine wo_cong fun x m1 => ?_
  by_cases h : clsAt m1 x = some c
  · rw [if_pos h, w_bind]
    refine Eq.trans (wo_cong (Q' := fun r m3 => OP (isS r) (fun z => z.length ≤ 100000 ∧ Q (.str z) m3) ⟨⟩) fun r m3 => ?_) (propext ⟨fun q => ⟨h, q⟩, fun q => q.2⟩)
    cases r with
    | str z =>
      show WO (if z.length ≤ 100000 then .ok (.str z) m3 else .stuck) Q X ⟨⟩ = (z.length ≤ 100000 ∧ Q (.str z) m3)
      by_cases hz : z.length ≤ 100000
      · rw [if_pos hz]; exact propext ⟨fun q => ⟨hz, q⟩, fun q => q.2⟩
      · rw [if_neg hz]; exact propext ⟨fun q => q.elim, fun q => absurd q.1 hz⟩
    | _ => rfl
  · rw [if_neg h]; exact propext ⟨fun q => q.elim, fun q => absurd q.1 h⟩
theorem w_owns {tb : List (Str × GF)} {da db : DE} : WO (dOwns tb da db env μ) Q X k = WO (da env μ) (fun x m1 => WO (db env m1) (fun y m2 => OP (selT tb (clsAt m2 x)) (fun G => (tagOf m2 y).isSome = true ∧ WO (G [x, y] m2) (fun r m3 => OP (isB r) (fun b => Q (.bl b) m3) ⟨⟩) X ⟨⟩) ⟨⟩) X ⟨⟩) X ⟨⟩ := by
  unfold dOwns
  rw [w_bind]
  refine wo_cong fun x m1 => ?_
  rw [w_bind]
  refine wo_cong fun y m2 => ?_
  cases selT tb (clsAt m2 x) with
  | none => rfl
  | some G =>
    show WO (if (tagOf m2 y).isSome = true then (G [x, y] m2).bind _ else .stuck) Q X ⟨⟩ = ((tagOf m2 y).isSome = true ∧ WO (G [x, y] m2) (fun r m3 => OP (isB r) (fun b => Q (.bl b) m3) ⟨⟩) X ⟨⟩)
    by_cases h : (tagOf m2 y).isSome = true
    · rw [if_pos h, w_bind]
      refine Eq.trans (wo_cong (Q' := fun r m3 => OP (isB r) (fun b => Q (.bl b) m3) ⟨⟩) fun r m3 => ?_) (propext ⟨fun q => ⟨h, q⟩, fun q => q.2⟩)
      cases r <;> rfl
    · rw [if_neg h]; exact propext ⟨fun q => q.elim, fun q => absurd q.1 h⟩
theorem w_nes {tb : List (Str × GF)} {da db : DE} : WO (dNes tb da db env μ) Q X k = WO (da env μ) (fun x m1 => WO (db env m1) (fun y m2 => OP (selT tb (clsAt m2 x)) (fun G => (tagOf m2 y).isSome = true ∧ WO (G [x, y] m2) (fun r m3 => OP (isB r) (fun b => Q (.bl (!b)) m3) ⟨⟩) X ⟨⟩) ⟨⟩) X ⟨⟩) X ⟨⟩ := by
  unfold dNes
  rw [w_bind]
  refine wo_cong fun x m1 => ?_
  rw [w_bind]
  refine wo_cong fun y m2 => ?_
  cases selT tb (clsAt m2 x) with
  | none => rfl
  | some G =>
    show WO (if (tagOf m2 y).isSome = true then (G [x, y] m2).bind _ else .stuck) Q X ⟨⟩ = ((tagOf m2 y).isSome = true ∧ WO (G [x, y] m2) (fun r m3 => OP (isB r) (fun b => Q (.bl (!b)) m3) ⟨⟩) X ⟨⟩)
    by_cases h : (tagOf m2 y).isSome = true
    · rw [if_pos h, w_bind]
      refine Eq.trans (wo_cong (Q' := fun r m3 => OP (isB r) (fun b => Q (.bl (!b)) m3) ⟨⟩) fun r m3 => ?_) (propext ⟨fun q => ⟨h, q⟩, fun q => q.2⟩)
      cases r <;> rfl
    · rw [if_neg h]; exact propext ⟨fun q => q.elim, fun q => absurd q.1 h⟩
theorem w_obSs {tb : List (Str × GF)} {da : DE} : WO (dObSs tb da env μ) Q X k = WO (da env μ) (fun x m1 => OP (selT tb (clsAt m1 x)) (fun G => WO (G [x] m1) (fun r m3 => OP (isS r) (fun z => Q (.str z) m3) ⟨⟩) X ⟨⟩) ⟨⟩) X ⟨⟩ := by
  unfold dObSs
  rw [w_bind]
  refine wo_cong fun x m1 => ?_
  cases selT tb (clsAt m1 x) with
  | none => rfl
  | some G =>
    show WO ((G [x] m1).bind _) Q X ⟨⟩ = WO (G [x] m1) (fun r m3 => OP (isS r) (fun z => Q (.str z) m3) ⟨⟩) X ⟨⟩
    rw [w_bind]
    refine wo_cong fun r m3 => ?_
    cases r <;> rfl
theorem w_meths {m : Str} {tb : List (Str × Nat × GF × List D)} {da : DE} {ds : DA} : WO (dMeths m tb da ds env μ) Q X k = WO (da env μ) (fun x m1 => OP (selT tb (clsAt m1 x)) (fun t => (fldAt m1 m x).isNone = true ∧ WO (ds env m1) (fun l m2 => (x :: (l ++ t.2.2)).length = t.1 ∧ WO (t.2.1 (x :: (l ++ t.2.2)) m2) Q X ⟨⟩) X ⟨⟩) ⟨⟩) X ⟨⟩ := by
  unfold dMeths
  rw [w_bind]
  refine wo_cong fun x m1 => ?_
  cases selT tb (clsAt m1 x) with
  | none => rfl
  | some t =>
    obtain ⟨np, G, dd⟩ := t
    show WO (if (fldAt m1 m x).isNone = true then (ds env m1).bind _ else .stuck) Q X ⟨⟩ = ((fldAt m1 m x).isNone = true ∧ WO (ds env m1) (fun l m2 => (x :: (l ++ dd)).length = np ∧ WO (G (x :: (l ++ dd)) m2) Q X ⟨⟩) X ⟨⟩)
    by_cases h : (fldAt m1 m x).isNone = true
    · rw [if_pos h, w_bind]
      refine Eq.trans (wo_cong (Q' := fun l m2 => (x :: (l ++ dd)).length = np ∧ WO (G (x :: (l ++ dd)) m2) Q X ⟨⟩) fun l m2 => ?_) (propext ⟨fun q => ⟨h, q⟩, fun q => q.2⟩)
      by_cases hl : (x :: (l ++ dd)).length = np
      · rw [if_pos hl]; exact propext ⟨fun q => ⟨hl, q⟩, fun q => q.2⟩
      · rw [if_neg hl]; exact propext ⟨fun q => q.elim, fun q => absurd q.1 hl⟩
    · rw [if_neg h]; exact propext ⟨fun q => q.elim, fun q => absurd q.1 h⟩
theorem s_aug {i : Nat} {de : DE} {z : Int} (h : env[i]? = some (some (.int z))) : WS (sAug i de env μ) N R B C Z ks = WO (de env μ) (fun y m => OP (isI y) (fun u => N (env.set i (some (.int (z + u)))) m) ⟨⟩) (fun c ns l m => Z c ns l env m) ⟨⟩ := by
  unfold sAug
  rw [h]
  show WS ((de env μ).bindS env _) N R B C Z ks = _
  rw [w_bindS]
  refine wo_cong fun y m => ?_
  cases y <;> rfl
end
end DL
set_option maxHeartbeats 1000000
/-! zip(a, b, strict=True): a list beside a tuple, of one length -/
set_option maxHeartbeats 1000000
/-! a strict zip, walked -/
namespace DL
open PySem PySem.Spec PyProof.Rows L2 L2P L2H
/-! ### for a, b in zip(xs, ys, strict=True): a list beside a tuple of as many items -/
def iZip (ds : DA) : DI := fun env μ => (ds env μ).bind fun l μ1 => match l with
  | [.tup _, _] => .stuck
  | [x, .tup ys] => match seqOf μ1 x with
    | some xs => if xs.length = ys.length then .ok (List.zipWith (fun p q => D.tup [p, q]) xs ys, fun μ2 => seqOf μ2 x = some xs) μ1 else .stuck
    | none => .stuck
  | _ => .stuck
section
variable {X : Cx} {S : Sx} {W : WX} {a b e tg : Expr} {es : List Expr} {da db d : DE} {dt : DT} {ds : DA} {pos p tpos kp cp : Pos} {k j : Nat} {xs : List Str} {u : Ty}
/-! ### n.f of a caught exception n -/
def dXf (xs : List Str) (f : Str) (da : DE) : DE := fun env μ => (da env μ).bind fun x μ1 => match x with
  | .exc c ns l => if xs.contains c = true then match fldOf f ns l with
    | some d => .ok d μ1
    | none => .stuck
    else .stuck
  | _ => .stuck
end
/-! ### readings -/
section
variable {X : XP} {env : En} {μ : List M}
def xfd (xs : List Str) (f : Str) : D → Option D
  | .exc c ns l => if xs.contains c = true then fldOf f ns l else none
  | _ => none
theorem w_xf {xs : List Str} {f : Str} {da : DE} {Q : D → List M → Prop} {k : Kt Q X} : WO (dXf xs f da env μ) Q X k = WO (da env μ) (fun x m1 => OP (xfd xs f x) (fun d => Q d m1) ⟨⟩) X ⟨⟩ := by
  unfold dXf
  rw [w_bind]
  refine wo_cong fun x m => ?_
  cases x with
  | exc c ns l =>
    show WO (if xs.contains c = true then (match fldOf f ns l with | some d => .ok d m | none => .stuck) else .stuck) Q X ⟨⟩ = OP (if xs.contains c = true then fldOf f ns l else none) (fun d => Q d m) ⟨⟩
    by_cases h : xs.contains c = true
    · rw [if_pos h, if_pos h]
      cases fldOf f ns l <;> rfl
    · rw [if_neg h, if_neg h]; rfl
  | _ => rfl
def zipO (μ : List M) : List D → Option (List D × (List M → Prop))
  | [.tup _, _] => none
  | [x, .tup ys] => match seqOf μ x with
    | some xs => if xs.length = ys.length then some (List.zipWith (fun p q => D.tup [p, q]) xs ys, fun μ2 => seqOf μ2 x = some xs) else none
    | none => none
  | _ => none
theorem i_zip {ds : DA} {Q : List D × (List M → Prop) → List M → Prop} {k : Kt Q X} : WO (iZip ds env μ) Q X k = WO (ds env μ) (fun l m => OP (zipO m l) (fun r => Q r m) ⟨⟩) X ⟨⟩ := by
  unfold iZip
  rw [w_bind]
  refine wo_cong fun l m => ?_
  unfold zipO
  split
  · rfl
  · rename_i x ys nt
    split
    · rename_i xs es
      by_cases en : xs.length = ys.length
      · rw [if_pos en, if_pos en] <;> rfl
      · rw [if_neg en, if_neg en] <;> rfl
    · rfl
  · rfl
end
end DL
/-! ### the top's run, looked at in parts: each part is its own run in the kernel, so that none needs all the memory at once -/
namespace DL
open PySem PySem.Spec PyProof.Rows L2 He
end DL
namespace DL
open PySem PySem.Spec PyProof.Rows L2
/-! ### max(xs) of a list of whole numbers -/
def intsD : List D → Option (List Int)
  | [] => some []
  | .int i :: l => (intsD l).map (i :: ·)
  | _ => none
def topI : List Int → Option Int
  | [] => none
  | n :: ns => some (ns.foldl max n)
def bMaxL (μ : List M) : List D → Option D
  | [x] => match lstOf μ x with
    | some l => ((intsD l).bind topI).map D.int
    | none => none
  | _ => none
end DL
set_option maxHeartbeats 1000000
/-! t[::-1] of a tuple of two -/
namespace DL
open PySem PySem.Spec PyProof.Rows L2
section
variable {X : Cx} {S : Sx} {W : WX} {a b e : Expr} {da db d : DE} {pos p : Pos}
/-- x[::-1] of a list, a text, a tuple of two -/
def revB (μ : List M) : D → Option D
  | .tup [x, y] => some (.tup [y, x])
  | x => revA μ x
def dRevB (da : DE) : DE := fun env μ => (da env μ).bind fun x μ1 => match revB μ1 x with
  | some d => .ok d μ1
  | none => .stuck
end
section
variable {X : XP} {env : En} {μ : List M}
theorem w_revB {da : DE} {Q : D → List M → Prop} {k : Kt Q X} : WO (dRevB da env μ) Q X k = WO (da env μ) (fun x m1 => OP (revB m1 x) (fun d => Q d m1) ⟨⟩) X ⟨⟩ := by
  unfold dRevB
  rw [w_bind]
  refine wo_cong fun x m1 => ?_
  cases revB m1 x <;> rfl
end
end DL
namespace DL
open PySem PySem.Spec PyProof.Rows L2
/-! ### x, y = f(..): two new lists handed back in a tuple, to be changed by the caller -/
abbrev G2 := List D → List M → Out (List D × List D)
section
variable {X : Cx} {S : Sx} {W : WX} {a b e o : Expr} {es : List Expr} {da db d : DE} {ds : DA} {pos p apos : Pos} {k : Nat} {x y m c : Str} {f : Addr} {fd : FuncData} {ps : List Str} {np : Nat} {GL : G2} {dd : List D} {md : Bool}
def dCallN2 (np : Nat) (G : G2) (dd : List D) (ds : DA) : En → List M → Out (List D × List D) := fun env μ => (ds env μ).bind fun l μ1 => if (l ++ dd).length = np then G (l ++ dd) μ1 else .stuck
/-- x, y = f(..) -/
def sNew2 (i j : Nat) (d : En → List M → Out (List D × List D)) : DS := fun env μ => (d env μ).bindS env fun l μ1 => .nx ((env.set i (some (.cel μ1.length))).set j (some (.cel (μ1.length + 1)))) (μ1 ++ [.lst l.1] ++ [.lst l.2])
end
end DL
/-! ### readings -/
namespace DL
open PySem PySem.Spec PyProof.Rows L2
section
variable {X : XP} {N : En → List M → Prop} {R : D → List M → Prop} {B C : En → List M → Prop} {Z : Str → List Str → List D → En → List M → Prop} {ks : Ks N R B C Z} {env : En} {μ m : List M}
theorem s_new2 {i j : Nat} {d : En → List M → Out (List D × List D)} : WS (sNew2 i j d env μ) N R B C Z ks = WO (d env μ) (fun l m => N ((env.set i (some (.cel m.length))).set j (some (.cel (m.length + 1)))) (m ++ [.lst l.1] ++ [.lst l.2])) (fun c ns l m => Z c ns l env m) ⟨⟩ := w_bindS
theorem w_callN2 {Q : List D × List D → List M → Prop} {k : Kt Q X} {np : Nat} {G : G2} {dd : List D} {as : DA} : WO (dCallN2 np G dd as env μ) Q X k = WO (as env μ) (fun l m => (l ++ dd).length = np ∧ WO (G (l ++ dd) m) Q X ⟨⟩) X ⟨⟩ := by
  unfold dCallN2
  rw [w_bind]
  refine wo_cong fun l m => ?_
  by_cases h : (l ++ dd).length = np
  · rw [if_pos h]; exact propext ⟨fun q => ⟨h, q⟩, fun q => q.2⟩
  · rw [if_neg h]; exact propext ⟨fun q => q.elim, fun q => absurd q.1 h⟩
end
end DL
/-! x != y, x == y of tuples that hold objects with an own ==, where all is equal -/
namespace GQ2
open PySem PySem.SeqAt GQ
open AutoSeq1 (wpAny_loadPart')
open MeetsSeq MeetsSeq2 MeetsSeq3 SeqRoads2
section
variable {prog : Program} {w : World} {A : Around} {R : Result → Shared → Prop}
theorem tuple_neG (l b : Addr) (items items2 : Array Value) (n n2 : Nat) (dd dd2 : Option Addr) (sl sl2 : Array (Option Value)) (hsz : items.size = items2.size) (I : Nat → Shared → Prop)
    (turn : ∀ i (h1 : i < items.size) (h2 : i < items2.size) s, I i s → wpAny (model prog w) A.in1 (eqBool items[i] items2[i]) (fun r s' => r = true ∧ I (i + 1) s') (fun e s' => R (.error e) s') s)
    (fin : ∀ s, I items.size s → R (.ok (.ret (.bool false))) s) {s : Shared} (hl1 : s.heap.get? l = some { cls := .type "tuple", dict := dd, data := .seq items n, slots := sl }) (hb1 : s.heap.get? b = some { cls := .type "tuple", dict := dd2, data := .seq items2 n2, slots := sl2 }) (h : I 0 s) :
    wpAny (model prog w) A.in1 (Builtin.«tuple.__ne__» ⟨[.ref l, .ref b], []⟩) (FinOf prog w A R) (fun e s' => R (.error e) s') s := by
  have f2 := AutoSeq1.sub_tuple_tuple
  have hZ : (items.toList.zip items2.toList).length = items.size := by simp [hsz]
  have h0 := h
  obtain ⟨hp, g, d, tk, os⟩ := s
  wp_walk using wpAny_loadPart' hl1, wpAny_loadPart' hb1, wpAny_forIn_list _ (fun rest b s' => b.1 = none ∧ ∃ i, rest = (items.toList.zip items2.toList).drop i ∧ i ≤ items.size ∧ I i s') _
  case turn =>
    rintro ⟨y, x⟩ rest b s' ⟨hb', i, hz, hi, hI⟩
    have hlt : i < (items.toList.zip items2.toList).length := by
      rcases Nat.lt_or_ge i (items.toList.zip items2.toList).length with h' | h'
      · exact h'
      · rw [List.drop_of_length_le h'] at hz; cases hz
    have h1 : i < items.size := hZ ▸ hlt
    have h2 : i < items2.size := hsz ▸ h1
    rw [List.drop_eq_getElem_cons hlt] at hz
    injection hz with hyx hrest
    have hy : y = items[i] := by have := congrArg Prod.fst hyx; simpa using this
    have hx : x = items2[i] := by have := congrArg Prod.snd hyx; simpa using this
    subst hy hx
    refine wpAny_bind (wpAny_mono (turn i h1 h2 s' hI) (fun r s2 q2 => ?_) fun _ _ x => x)
    obtain ⟨hr, q2⟩ := q2
    subst hr
    wp_walk
    exact ⟨rfl, i + 1, hrest, h1, q2⟩
  case fin =>
    rintro ⟨b1, b2⟩ s' ⟨hb', i, hz, hi, hI⟩
    simp only at hb'
    subst hb'
    have hge : items.size ≤ i := by
      rcases Nat.lt_or_ge i (items.toList.zip items2.toList).length with h' | h'
      · rw [List.drop_eq_getElem_cons h'] at hz; cases hz
      · exact hZ ▸ h'
    have hi' : i = items.size := by omega
    have hR : R (.ok (.ret (.bool false))) s' := fin s' (hi' ▸ hI)
    wp_walk
    simpa [Builtin.Tuple.tupleCompareSizes, hsz] using hR
  case h =>
    exact ⟨rfl, 0, rfl, Nat.zero_le _, h0⟩
end
section
variable {prog : Program} {w : World} {A : Around} {E : Value → Shared → Prop} {s : Shared}
theorem rc_tupNeG {l b : Addr} {items items2 : Array Value} {Q : Value → Shared → Prop} (hsz : items.size = items2.size) (hu : A.units < cLine) (I : Nat → Shared → Prop)
    (hl : s.heap.IsTuple l items) (hb : s.heap.IsTuple b items2)
    (turn : ∀ i (h1 : i < items.size) (h2 : i < items2.size) s, I i s → wpAny (model prog w) A.in1 (eqBool items[i] items2[i]) (fun r s' => r = true ∧ I (i + 1) s') E s)
    (fin : ∀ s, I items.size s → Q (.bool false) s) (h : I 0 s) : wpAny (model prog w) A (richCompare .NotEq (.ref l) (.ref b)) Q E s := by
  obtain ⟨⟨cls, dd, data, sl⟩, ho, hc, n, hd⟩ := id hl
  obtain ⟨⟨cls2, dd2, data2, sl2⟩, ho2, hc2, n2, hd2⟩ := id hb
  simp only at hc hd hc2 hd2
  subst hc hd hc2 hd2
  refine wpAny_richCompare_same_room (op := .NotEq) ⟨_, ho, rfl⟩ ⟨_, ho2, rfl⟩ F.slot_tuple_ne (call_here F.slot_tuple_ne ⟨_, ho, rfl⟩ F.entry_tuple_ne (F.args_tuple_ne_2 _ _) ?_) hu
  exact tuple_neG (R := wants (fun v s' => v ≠ .notImplemented ∧ Q v s') E) l b items items2 n n2 dd dd2 sl sl2 hsz I turn (fun s' q => ⟨(fun x => nomatch x), fin s' q⟩) ho ho2 h
end
end GQ2
namespace DL
open PySem PySem.Spec PyProof.Rows L2
def flatE : D → Bool
  | .non | .bl _ | .int _ | .str _ => true
  | _ => false
/-- equal to itself: plain leaves, tuples, objects whose own == says so -/
def okO (tb : List (Str × GF)) (μ : List M) : Nat → D → Prop
  | 0, d => flatE d = true
  | n + 1, d => match d with
    | .tup l => ∀ x ∈ l, okO tb μ n x
    | .obj c ns l => ∃ G, selT tb (some c) = some G ∧ G [.obj c ns l, .obj c ns l] μ = .ok (.bl true) μ
    | d => flatE d = true
section
variable {X : Cx} {S : Sx} {W : WX} {md : Bool} {k : Nat} {tb : List (Str × GF)} {μ : List M}
/-- what is known of a class's own == -/
structure OwnF (X : Cx) (S : Sx) (md : Bool) (k : Nat) (c : Str) (G : GF) : Prop where
  ex : ∃ f fd ps, FnOk X.prog X.w X.K X.mg X.base (L2M.CX md X.prog X.w) k f fd ps (spD (at0 S 0) 2 G) ∧ PySem.W.findIn X.K (.ref (S.A c)) "__eq__" = some (some (.ref f)) ∧ PySem.W.isFn X.K (.ref f) = true ∧ Binds X.K fd ps []
def LoopD (X : Cx) (S : Sx) (pins : List (Addr × Obj)) (σ : St) (c : Cf) (μ : List M) (s' : Shared) : Prop := ∃ c', Step S c c' ∧ SI S c' μ ∧ Inv X pins σ c'.H s'
theorem flat_run {d : D} (h : flatE d = true) {A : Around} {s : Shared} {c : Cf} {x y : V} {u v : Value} (r1 : rep S c.io c.F d x) (r2 : rep S c.io c.F d y) (rx : RelV x u) (ry : RelV y v) : SeqAt.EqAt A s u v true := by
  have e : x = y ∧ flatV x = true ∧ eqV x x = true := by
    cases d with
    | non => rw [rep_non.mp r1, rep_non.mp r2]; exact ⟨rfl, rfl, rfl⟩
    | bl b => rw [rep_bl.mp r1, rep_bl.mp r2]; exact ⟨rfl, rfl, by simp [eqV]⟩
    | int i => rw [rep_int.mp r1, rep_int.mp r2]; exact ⟨rfl, rfl, by simp [eqV]⟩
    | str z => rw [(rep_str.mp r1).1, (rep_str.mp r2).1]; exact ⟨rfl, rfl, by simp [eqV]⟩
    | _ => cases h
  obtain ⟨rfl, f, e⟩ := e
  have q := eqAt_V (A := A) (s := s) rx ry f f
  rwa [e] at q
theorem loop_turn {A : Around} {pins : List (Addr × Obj)} {σ : St} {c : Cf} {l : List D} {xs ys : List V} {its its2 : List Value} (r1 : reps S c.io c.F l xs) (r2 : reps S c.io c.F l ys) (r : Vals xs its) (r' : Vals ys its2)
    (h : ∀ d ∈ l, ∀ (s : Shared) (c1 : Cf) (x y : V) (u v : Value), SI S c1 μ → Inv X pins σ c1.H s → rep S c1.io c1.F d x → rep S c1.io c1.F d y → RelV x u → RelV y v → wpAny (model X.prog X.w) A (eqBool u v) (fun r s' => r = true ∧ LoopD X S pins σ c1 μ s') X.xe s)
    (i : Nat) (h1 : i < its.toArray.size) (h2 : i < its2.toArray.size) (s' : Shared) (q : LoopD X S pins σ c μ s') :
    wpAny (model X.prog X.w) A (eqBool its.toArray[i] its2.toArray[i]) (fun r s2 => r = true ∧ LoopD X S pins σ c μ s2) X.xe s' := by
  obtain ⟨c1, s1, I1, J1⟩ := q
  have k0 : i < l.length := by rw [r1.len, r.length]; simpa using h1
  obtain ⟨x, hx, rx⟩ := r1.get (List.getElem?_eq_getElem k0)
  obtain ⟨y, hy, ry⟩ := r2.get (List.getElem?_eq_getElem k0)
  obtain ⟨u, hu, ru⟩ := r.get hx
  obtain ⟨v, hv, rv⟩ := r'.get hy
  have g1 : its[i]? = some its.toArray[i] := by
    have h1' : i < its.length := by simpa using h1
    rw [List.getElem?_eq_getElem h1'] <;> simp
  have g2 : its2[i]? = some its2.toArray[i] := by
    have h2' : i < its2.length := by simpa using h2
    rw [List.getElem?_eq_getElem h2'] <;> simp
  rw [g1] at hu
  rw [g2] at hv
  rw [Option.some.inj hu, Option.some.inj hv]
  refine wpAny_mono (h _ (List.getElem_mem k0) s' c1 x y u v I1 J1 (s1.rep rx) (s1.rep ry) ru rv) (fun r s2 q => ?_) fun _ _ x => x
  obtain ⟨hr, c2, s2', I2, J2⟩ := q
  exact ⟨hr, c2, s1.trans s2', I2, J2⟩
theorem eqO_run (hK : X.K = S.K) (tk : L2M.Takes md X W) (htb : ∀ c G, selT tb (some c) = some G → OwnF X S md k c G) : ∀ (n : Nat) (d : D) (A : Around) (pins : List (Addr × Obj)) (s : Shared) (σ : St) (c : Cf) (x y : V) (u v : Value),
    A.frames = X.A.frames → Room (k + n) A → SI S c μ → Inv X pins σ c.H s → rep S c.io c.F d x → rep S c.io c.F d y → RelV x u → RelV y v → okO tb μ n d →
    wpAny (model X.prog X.w) A (eqBool u v) (fun r s' => r = true ∧ LoopD X S pins σ c μ s') X.xe s := by
  intro n
  induction n with
  | zero => exact fun d A pins s σ c x y u v hA hr I J r1 r2 rx ry h => flat_run h r1 r2 rx ry X.prog X.w X.xe _ ⟨rfl, c, I.step, I, J⟩
  | succ n ih =>
    intro d A pins s σ c x y u v hA hr I J r1 r2 rx ry h
    have flat : flatE d = true → wpAny (model X.prog X.w) A (eqBool u v) (fun r s' => r = true ∧ LoopD X S pins σ c μ s') X.xe s := fun f => flat_run f r1 r2 rx ry X.prog X.w X.xe _ ⟨rfl, c, I.step, I, J⟩
    cases d with
    | tup l =>
      unfold rep at r1 r2
      obtain ⟨a, xs, rfl, ha, ra⟩ := r1
      obtain ⟨b, ys, rfl, hb, rb⟩ := r2
      cases rx
      cases ry
      by_cases hab : a = b
      · subst hab
        exact SeqAt.EqAt.same (A := A) (s := s) (.ref a) X.prog X.w X.xe _ ⟨rfl, c, I.step, I, J⟩
      · refine GQ.eqBool_refG hab ?_
        obtain ⟨its, r, e, _⟩ := J.tuple (by rw [hK]; exact ex_t I.ex ha)
        obtain ⟨its2, r', e2, _⟩ := J.tuple (by rw [hK]; exact ex_t I.ex hb)
        have hsz : its.toArray.size = its2.toArray.size := by rw [List.size_toArray, List.size_toArray, ← r.length, ← r'.length, ← ra.len, ← rb.len]
        refine GQ.rc_tupG hsz hr.units0 (fun _ s' => LoopD X S pins σ c μ s') e e2 (fun i h1 h2 s' q => loop_turn ra rb r r' (fun d hd s1 c1 x y u v I1 J1 k1 k2 k3 k4 => ih d A.in1 pins s1 σ c1 x y u v hA hr.in1 I1 J1 k1 k2 k3 k4 (h d hd)) i h1 h2 s' q) (fun s' q => ⟨true, rfl, rfl, q⟩) ⟨c, I.step, I, J⟩
    | obj cl ns l =>
      obtain ⟨G, hG, hg⟩ := h
      obtain ⟨f, fd, ps, F, hs, hf, hb⟩ := (htb cl G hG).ex
      obtain ⟨a, dx, fs, _, _, rfl, ha, _⟩ := obj_at I r1 (show clsAt μ (.obj cl ns l) = some cl from rfl)
      obtain ⟨b, dy, gs, _, _, rfl, hb', _⟩ := obj_at I r2 (show clsAt μ (.obj cl ns l) = some cl from rfl)
      cases rx
      cases ry
      by_cases hab : a = b
      · subst hab
        exact SeqAt.EqAt.same (A := A) (s := s) (.ref a) X.prog X.w X.xe _ ⟨rfl, c, I.step, I, J⟩
      · refine GQ.eqBool_refG hab ?_
        obtain ⟨mA, K1, _⟩ := ins_get J.hok ha
        obtain ⟨mB, K2, _⟩ := ins_get J.hok hb'
        obtain ⟨od, K1, _⟩ := K1.look
        obtain ⟨od', K2, _⟩ := K2.look
        obtain ⟨m, hF⟩ := J.fr
        refine PySem.W.cmp_K (op := .Eq) (tb := .ref (S.A cl)) hr.units0 hF J.ok.mod.kin K1 K2.type (by simp [PySem.W.notFirst]) hs hf ?_
        refine wpAny_mono (run_atA (A' := A) hA F (hr.mono (Nat.le_add_right _ _)) tk hb J (vs := [.ref a, .ref b]) (.cons rfl (.cons rfl .nil)) (Q := fun v H' => v = .bl true ∧ ∃ c', H' = c'.H ∧ Step S c c' ∧ SI S c' μ) (σ := σ) (sp_at (l := [.obj cl ns l, .obj cl ns l]) I (.cons r1 (.cons r2 .nil)) rfl (by
          rw [hg]
          exact fun v c' s' I' r' => ⟨rep_bl.mp r', c', rfl, s', I'⟩))) (fun w s' hw => ?_) fun _ _ e => e
        obtain ⟨z, H', I', rz, rfl, c', rfl, s1, I1⟩ := hw
        cases rz
        exact ⟨true, rfl, rfl, c', s1, I1, I'⟩
    | _ => exact flat h
variable {a b e : Expr} {da db : DE} {pos : Pos} {S0 : Sx} {n kr : Nat}
open Classical in
noncomputable def dNeT (tb : List (Str × GF)) (da db : DE) : DE := fun env μ => (da env μ).bind fun x μ1 => (db env μ1).bind fun y μ2 => if x = y ∧ (∃ l, x = .tup l) ∧ okO tb μ2 4 x then .ok (.bl false) μ2 else .stuck
open Classical in
/-- x != y of tuples: all is equal, or as of plain data -/
noncomputable def dNeO (tb : List (Str × GF)) (da db : DE) : DE := fun env μ => (da env μ).bind fun x μ1 => (db env μ1).bind fun y μ2 => if x = y ∧ (∃ l, x = .tup l) ∧ okO tb μ2 4 x then .ok (.bl false) μ2 else match opNe μ2 x y with
  | some z => .ok z μ2
  | none => .stuck
abbrev rNeT (S : Sx) (tb : List (Str × GF)) (x y : V) (H2 : Hp) (Q : VK) : Prop := ∃ c μ l, H2 = c.H ∧ SI S c μ ∧ rep S c.io c.F (.tup l) x ∧ rep S c.io c.F (.tup l) y ∧ okO tb μ 4 (.tup l) ∧ ∀ c', Step S c c' → SI S c' μ → Q (.bl false) c'.H
theorem neT_core (hK : X.K = S.K) (tk : L2M.Takes md X W) (hr : Room (k + 4) X.A) (htb : ∀ c G, selT tb (some c) = some G → OwnF X S md k c G) {pins : List (Addr × Obj)} {σ : L2.St} {H2 : Hp} {s2 : Shared} {x y : V} {v u : Value} {Q : VK} (J : Inv X pins σ H2 s2) (rx : RelV x v) (ry : RelV y u)
    (q : rNeT S tb x y H2 Q) : wpAny (model X.prog X.w) X.A (compareOp .NotEq v u) (EP X pins σ Q) X.xe s2 := by
  obtain ⟨c, μ, l, rfl, I, r1, r2, h, q⟩ := q
  unfold rep at r1 r2
  obtain ⟨a, xs, rfl, ha, ra⟩ := r1
  obtain ⟨b, ys, rfl, hb, rb⟩ := r2
  cases rx
  cases ry
  obtain ⟨its, r, e, _⟩ := J.tuple (by rw [hK]; exact ex_t I.ex ha)
  obtain ⟨its2, r', e2, _⟩ := J.tuple (by rw [hK]; exact ex_t I.ex hb)
  have hsz : its.toArray.size = its2.toArray.size := by rw [List.size_toArray, List.size_toArray, ← r.length, ← r'.length, ← ra.len, ← rb.len]
  show wpAny (model X.prog X.w) X.A (richCompare .NotEq (.ref a) (.ref b)) (EP X pins σ Q) X.xe s2
  refine GQ2.rc_tupNeG hsz hr.units0 (fun _ s' => LoopD X S pins σ c μ s') e e2 (fun i h1 h2 s' q => loop_turn ra rb r r' (fun d hd s1 c1 x y u v I1 J1 k1 k2 k3 k4 => eqO_run hK tk htb 3 d X.A.in1 pins s1 σ c1 x y u v rfl hr.in1 I1 J1 k1 k2 k3 k4 (h d hd)) i h1 h2 s' q) (fun s' q' => ?_) ⟨c, I.step, I, J⟩
  obtain ⟨c', s1, I1, J1⟩ := q'
  exact ⟨.bl false, c'.H, J1, rfl, q c' s1 I1⟩
theorem neT_run {ta tb' : TE} (ka : ∀ env σ c μ Q, SI S c μ → EnvOk S c env σ → EQ S W σ c Q (da env μ) → ta σ c.H Q) (kb : ∀ env σ c μ Q, SI S c μ → EnvOk S c env σ → EQ S W σ c Q (db env μ) → tb' σ c.H Q) :
    ∀ env σ c1 μ Q, SI S c1 μ → EnvOk S c1 env σ → EQ S W σ c1 Q (dNeT tb da db env μ) → ta σ c1.H fun x H1 => tb' σ H1 fun y H2 => rNeT S tb x y H2 Q := by
  intro env σ c1 μ Q I en q
  refine bindE (fun Q' => ka env σ c1 μ Q' I en) q fun x μ1 v c2 s1 I1 r1 q1 => ?_
  refine bindE (fun Q' => kb env σ c2 μ1 Q' I1 (en.step s1)) q1 fun y μ2 u c3 s2 I2 r2 q2 => ?_
  by_cases h : x = y ∧ (∃ l, x = .tup l) ∧ okO tb μ2 4 x
  · rw [if_pos h] at q2
    obtain ⟨rfl, ⟨l, rfl⟩, h⟩ := h
    exact ⟨c3, μ2, l, rfl, I2, s2.rep r1, r2, h, fun c' s' I' => q2 _ c' s' I' (rep_bl.mpr rfl)⟩
  · rw [if_neg h] at q2; exact q2.elim
theorem own_at0 (hK : X.K = S0.K) {c : Str} {G : GF} (C : MetD md X.prog X.w X.K X.mg X.base (at0 S0 0) k c "__eq__" 2 G []) {kr : Nat} (h : k ≤ kr) : OwnF X (at0 S0 n) md kr c G := ⟨own_parts (n := n) hK C h⟩
theorem own_nil {S : Sx} : ∀ c G, selT ([] : List (Str × GF)) (some c) = some G → OwnF X S md k c G := fun _ _ h => nomatch h
theorem own_cons {S : Sx} {c0 : Str} {G0 : GF} {tb : List (Str × GF)} (h : OwnF X S md k c0 G0) (t : ∀ c G, selT tb (some c) = some G → OwnF X S md k c G) : ∀ c G, selT ((c0, G0) :: tb) (some c) = some G → OwnF X S md k c G := fun c G e => by
  have e : (if some c = some c0 then some G0 else selT tb (some c)) = some G := e
  by_cases q : some c = some c0
  · rw [if_pos q] at e
    cases e
    cases q
    exact h
  · rw [if_neg q] at e
    exact t c G e
theorem pdt_neT (hK : X.K = S.K) (tk : L2M.Takes md X W) (hr : Room kr X.A) (hk : k + 4 ≤ kr) (htb : ∀ c G, selT tb (some c) = some G → OwnF X S md k c G) (ha : PDE X S W a da) (hb : PDE X S W b db) (hm : behindInMarks .NotEq b = false) : PDT X S W (.Compare a [.NotEq] [b] pos) (dTst (dNeT tb da db)) := by
  obtain ⟨ta, pa, ka⟩ := ha.ex
  obtain ⟨tb', pb, kb⟩ := hb.ex
  refine ⟨tTest (fun σ H Q => ta σ H fun x H1 => tb' σ H1 fun y H2 => rNeT S tb x y H2 Q), ⟨fun pins s σ H Q I h => ?_⟩, fun env σ c1 μ Q I en q => ?_⟩
  · refine wpAny_isTrue_Compare1 (thn (pa.run pins s σ H _ I h) fun v s1 ⟨x, H1, I1, r1, q1⟩ => thn (pb.run pins s1 σ H1 _ I1 q1) fun u s2 ⟨y, H2, I2, r2, q2⟩ =>
      thn (neT_core (Q := fun x H' => ∃ k, x = .bl k ∧ Q k H') hK tk (hr.mono hk) htb I2 r1 r2 q2) fun c s3 ⟨z, H3, I3, r3, k, e, q3⟩ => ?_) hm
    subst e
    cases r3
    exact wpAny_truthy_bool ⟨H3, I3, q3⟩
  · show ta σ c1.H fun x H1 => tb' σ H1 fun y H2 => rNeT S tb x y H2 fun x H' => ∃ k, x = .bl k ∧ Q k H'
    refine bindET (t := fun σ H Q => ta σ H fun x H1 => tb' σ H1 fun y H2 => rNeT S tb x y H2 Q) (fun Q' => neT_run (tb := tb) ka kb env σ c1 μ Q' I en) q fun x μ1 v c2 s1 I1 r1 q1 => ?_
    cases x with
    | bl k => exact ⟨k, rep_bl.mp r1, q1 c2 I1.step I1⟩
    | _ => exact q1.elim
theorem neO_at {env : En} {μ : List M} : (∃ d', (d' = dNeT tb da db ∨ d' = dOp opNe da db) ∧ dNeO tb da db env μ = d' env μ) ∨ dNeO tb da db env μ = .stuck := by
  unfold dNeO
  cases e1 : da env μ with
  | ex _ _ _ _ => exact .inl ⟨_, .inl rfl, by unfold dNeT; rw [e1]; rfl⟩
  | stuck => exact .inr rfl
  | ok x μ1 =>
    cases e2 : db env μ1 with
    | ex _ _ _ _ => exact .inl ⟨_, .inl rfl, by unfold dNeT; rw [e1]; show (db env μ1).bind _ = (db env μ1).bind _; rw [e2]; rfl⟩
    | stuck => exact .inr (by show (db env μ1).bind _ = _; rw [e2]; rfl)
    | ok y μ2 =>
      by_cases h : x = y ∧ (∃ l, x = .tup l) ∧ okO tb μ2 4 x
      · refine .inl ⟨_, .inl rfl, ?_⟩
        unfold dNeT
        rw [e1]
        show (db env μ1).bind _ = (db env μ1).bind _
        rw [e2]
        exact (if_pos h).trans (if_pos h).symm
      · refine .inl ⟨_, .inr rfl, ?_⟩
        unfold dOp
        rw [e1]
        show (db env μ1).bind _ = (db env μ1).bind _
        rw [e2]
        exact if_neg h
theorem pdt_neO (h1 : PDT X S W e (dTst (dNeT tb da db))) (h2 : PDT X S W e (dTst (dOp opNe da db))) : PDT X S W e (dTst (dNeO tb da db)) := pdt_sel (P := fun d' => d' = dTst (dNeT tb da db) ∨ d' = dTst (dOp opNe da db)) (fun d' h => h.elim (fun e => e ▸ h1) fun e => e ▸ h2) fun env μ => by
  rcases neO_at (tb := tb) (da := da) (db := db) (env := env) (μ := μ) with ⟨d', h, e⟩ | e
  · rcases h with rfl | rfl
    · exact .inl ⟨_, .inl rfl, by unfold dTst; rw [e]⟩
    · exact .inl ⟨_, .inr rfl, by unfold dTst; rw [e]⟩
  · exact .inr (by unfold dTst; rw [e]; rfl)
end
end DL
set_option maxHeartbeats 0
namespace K21
open PySem PySem.Spec PyProof.Rows L2 DL
theorem ob_eq (s : PySem.W.SharedT) : ob s = hk.obs s.abs := obsXG_eq (HandSHeadRun.getT_eq s)
end K21
namespace PG
open PySem PySem.Spec PyProof.Rows L2 DL
noncomputable def D_law_well : DS :=
  (sRetC (aCons (dOp opMul (dVar 0) (dBlt bInt (aCons (dOp opGe (dVar 0) (dOp opPow (dC (.int 10)) (dC (.int 18)))) aNil))) (aCons (dOp opMod (dVar 0) (dC (.int 2147483647))) (aCons (dC (.int 0)) aNil))))
def dfl_law_well : List D := []
noncomputable def G_law_well : GN := fnN 1 1 D_law_well
noncomputable def D_law_draw : DS :=
  (sSeq (sIf (dTst (dOp opGt (dOp opIx (dVar 0) (dC (.int 0))) (dC (.int 0))))
    (sSeq (sAsg (dOp opMod (dOp opIx (dVar 0) (dC (.int 0))) (dVar 1)) (gNm 2))
    (sSeq (sSetIx (dOp opDiv (dOp opIx (dVar 0) (dC (.int 0))) (dVar 1)) (dVar 0) (dC (.int 0)))
    (sRet (dVar 2))))
    sNil)
    (sSeq (sSetIx (dOp opAdd (dOp opIx (dVar 0) (dC (.int 2))) (dC (.int 1))) (dVar 0) (dC (.int 2)))
    (sSeq (sAsg (dOp opMod (dOp opMul (dOp opAdd (dOp opAdd (dOp opIx (dVar 0) (dC (.int 1))) (dOp opMul (dC (.int 7919)) (dOp opIx (dVar 0) (dC (.int 2))))) (dC (.int 1))) (dC (.int 48271))) (dC (.int 2147483647))) (gNm 3))
    (sSeq (sAsg (dOp opMod (dOp opMul (dVar 3) (dOp opAdd (dOp opDiv (dVar 3) (dC (.int 1009))) (dC (.int 69621)))) (dC (.int 2147483629))) (gNm 3))
    (sRet (dOp opMod (dOp opDiv (dOp opMod (dOp opMul (dVar 3) (dOp opAdd (dOp opDiv (dVar 3) (dC (.int 2003))) (dC (.int 40692)))) (dC (.int 2147483399))) (dC (.int 7))) (dVar 1)))))))
def dfl_law_draw : List D := []
noncomputable def G_law_draw : GF := fnG 4 2 D_law_draw
noncomputable def D_law_number : DS :=
  (sSeq (sAsg (dCall 2 G_law_draw (List.drop 0 dfl_law_draw) (aCons (dVar 0) (aCons (dC (.int 8)) aNil))) (gNm 1))
    (sSeq (sIf (dTst (dOp opLt (dVar 1) (dC (.int 4))))
    (sRet (dOp opAdd (dC (.int 1)) (dCall 2 G_law_draw (List.drop 0 dfl_law_draw) (aCons (dVar 0) (aCons (dC (.int 9)) aNil)))))
    sNil)
    (sSeq (sIf (dTst (dOp opEq (dVar 1) (dC (.int 4))))
    (sSeq (sAsg (dLst (aCons (dC (.int 26)) (aCons (dC (.int 27)) (aCons (dC (.int 52)) (aCons (dC (.int 53)) (aCons (dC (.int 702)) (aCons (dC (.int 703)) (aCons (dC (.int 18278)) (aCons (dC (.int 18279)) (aCons (dC (.int 217180147158)) (aCons (dC (.int 217180147159)) (aCons (dOp opSub (dOp opPow (dC (.int 10)) (dC (.int 12))) (dC (.int 2))) (aCons (dC (.int 1)) aNil))))))))))))) (gNm 2))
    (sRet (dOp opIx (dVar 2) (dCall 2 G_law_draw (List.drop 0 dfl_law_draw) (aCons (dVar 0) (aCons (dC (.int 12)) aNil))))))
    sNil)
    (sSeq (sIf (dTst (dOp opEq (dVar 1) (dC (.int 5))))
    (sRet (dOp opAdd (dC (.int 1)) (dCall 2 G_law_draw (List.drop 0 dfl_law_draw) (aCons (dVar 0) (aCons (dOp opSub (dOp opPow (dC (.int 10)) (dC (.int 12))) (dC (.int 2))) aNil)))))
    sNil)
    (sRet (dOp opAdd (dC (.int 1)) (dCall 2 G_law_draw (List.drop 0 dfl_law_draw) (aCons (dVar 0) (aCons (dC (.int 800)) aNil)))))))))
def dfl_law_number : List D := []
noncomputable def G_law_number : GF := fnG 3 1 D_law_number
noncomputable def D_law_last : DS :=
  (sSeq (sAsg (dCall 2 G_law_draw (List.drop 0 dfl_law_draw) (aCons (dVar 0) (aCons (dC (.int 6)) aNil))) (gNm 2))
    (sSeq (sIf (dTst (dOp opLt (dVar 2) (dC (.int 2))))
    (sRet (dVar 1))
    sNil)
    (sSeq (sIf (dTst (dOp opEq (dVar 2) (dC (.int 2))))
    (sRet (dBlt bMin (aCons (dOp opSub (dOp opPow (dC (.int 10)) (dC (.int 12))) (dC (.int 2))) (aCons (dOp opAdd (dVar 1) (dCall 2 G_law_draw (List.drop 0 dfl_law_draw) (aCons (dVar 0) (aCons (dOp opPow (dC (.int 10)) (dC (.int 6))) aNil)))) aNil))))
    sNil)
    (sRet (dBlt bMin (aCons (dOp opSub (dOp opPow (dC (.int 10)) (dC (.int 12))) (dC (.int 2))) (aCons (dOp opAdd (dVar 1) (dCall 2 G_law_draw (List.drop 0 dfl_law_draw) (aCons (dVar 0) (aCons (dC (.int 6)) aNil)))) aNil)))))))
def dfl_law_last : List D := []
noncomputable def G_law_last : GF := fnG 3 2 D_law_last
noncomputable def D_law_block : DS :=
  (sSeq (sAsg (dCall 2 G_law_draw (List.drop 0 dfl_law_draw) (aCons (dVar 0) (aCons (dC (.int 9)) aNil))) (gNm 1))
    (sSeq (sAsg (dCall 1 G_law_number (List.drop 0 dfl_law_number) (aCons (dVar 0) aNil)) (gNm 2))
    (sSeq (sAsg (dCall 2 G_law_last (List.drop 0 dfl_law_last) (aCons (dVar 0) (aCons (dVar 2) aNil))) (gNm 3))
    (sSeq (sAsg (dCall 1 G_law_number (List.drop 0 dfl_law_number) (aCons (dVar 0) aNil)) (gNm 4))
    (sSeq (sAsg (dCall 2 G_law_last (List.drop 0 dfl_law_last) (aCons (dVar 0) (aCons (dVar 4) aNil))) (gNm 5))
    (sSeq (sIf (dTst (dOp opEq (dVar 1) (dC (.int 0))))
    (sRet (dTup (aCons (dVar 2) (aCons (dVar 4) (aCons (dVar 2) (aCons (dVar 4) aNil))))))
    sNil)
    (sSeq (sIf (dTst (dOp opEq (dVar 1) (dC (.int 1))))
    (sRet (dTup (aCons (dVar 2) (aCons (dC (.int 1)) (aCons (dVar 3) (aCons (dC .non) aNil))))))
    sNil)
    (sSeq (sIf (dTst (dOp opEq (dVar 1) (dC (.int 2))))
    (sRet (dTup (aCons (dC (.int 1)) (aCons (dVar 4) (aCons (dC .non) (aCons (dVar 5) aNil))))))
    sNil)
    (sSeq (sIf (dTst (dOp opLt (dVar 1) (dC (.int 6))))
    (sRet (dOp opIx (dLst (aCons (dTup (aCons (dVar 2) (aCons (dVar 4) (aCons (dC .non) (aCons (dVar 5) aNil))))) (aCons (dTup (aCons (dVar 2) (aCons (dVar 4) (aCons (dVar 3) (aCons (dC .non) aNil))))) (aCons (dTup (aCons (dVar 2) (aCons (dVar 4) (aCons (dC .non) (aCons (dC .non) aNil))))) aNil)))) (dOp opSub (dVar 1) (dC (.int 3)))))
    sNil)
    (sSeq (sIf (dTst (dOp opEq (dVar 1) (dC (.int 6))))
    (sRet (dTup (aCons (dC (.int 1)) (aCons (dC (.int 1)) (aCons (dC .non) (aCons (dC .non) aNil))))))
    sNil)
    (sRet (dTup (aCons (dVar 2) (aCons (dVar 4) (aCons (dVar 3) (aCons (dVar 5) aNil))))))))))))))))
def dfl_law_block : List D := []
noncomputable def G_law_block : GF := fnG 6 1 D_law_block
def dfl_law_cells : List D := []
noncomputable def D_is_whole : DS :=
  (sRet (dAnd (dBlt (bIsU (.inl "int")) (aCons (dVar 0) (aCons (dC (.ty "int")) aNil))) (dNot (dBlt (bIsU (.inl "bool")) (aCons (dVar 0) (aCons (dC (.ty "bool")) aNil))))))
def dfl_is_whole : List D := []
noncomputable def G_is_whole : GF := fnG 1 1 D_is_whole
noncomputable def D_is_count : DS :=
  (sRet (dAnd (dCall 1 G_is_whole (List.drop 0 dfl_is_whole) (aCons (dVar 0) aNil)) (dOp opGe (dVar 0) (dC (.int 1)))))
def dfl_is_count : List D := []
noncomputable def G_is_count : GF := fnG 1 1 D_is_count
noncomputable def D_is_end : DS :=
  (sRet (dOr (dOp opIs (dVar 1) (dC .non)) (dAnd (dCall 1 G_is_count (List.drop 0 dfl_is_count) (aCons (dVar 1) aNil)) (dOp opGe (dVar 1) (dVar 0)))))
def dfl_is_end : List D := []
noncomputable def G_is_end : GF := fnG 2 2 D_is_end
noncomputable def D_Block_init__ : DS :=
  (sSeq (sIf (tOr2 (tNot2 (dTru (dCall 1 G_is_count (List.drop 0 dfl_is_count) (aCons (dVar 1) aNil)))) (tOr2 (tNot2 (dTru (dCall 1 G_is_count (List.drop 0 dfl_is_count) (aCons (dVar 2) aNil)))) (tOr2 (tNot2 (dTru (dCall 2 G_is_end (List.drop 0 dfl_is_end) (aCons (dVar 1) (aCons (dVar 3) aNil))))) (tNot2 (dTru (dCall 2 G_is_end (List.drop 0 dfl_is_end) (aCons (dVar 2) (aCons (dVar 4) aNil))))))))
    (sRaise "NoBlock")
    sNil)
    (sSeq (sFldSet "top" (dVar 0) (dVar 1))
    (sSeq (sFldSet "left" (dVar 0) (dVar 2))
    (sSeq (sFldSet "bottom" (dVar 0) (dVar 3))
    (sFldSet "right" (dVar 0) (dVar 4))))))
def dfl_Block_init__ : List D := [(.int 1), (.int 1), .non, .non]
noncomputable def G_Block_init__ : GF := fnG 5 5 D_Block_init__
def dfl_law_made : List D := []
noncomputable def D_is_cell : DS :=
  (sRet (dAnd (dBlt (bIsU (.inl "tuple")) (aCons (dVar 0) (aCons (dC (.ty "tuple")) aNil))) (dAnd (dOp opEq (dBlt bLen (aCons (dVar 0) aNil)) (dC (.int 2))) (dBlt bAll (aCons (dLcF (iAny (dVar 0)) (gNm 1) tYes' (dCall 1 G_is_count (List.drop 0 dfl_is_count) (aCons (dVar 1) aNil)) [1]) aNil)))))
def dfl_is_cell : List D := []
noncomputable def G_is_cell : GF := fnG 2 1 D_is_cell
noncomputable def D_checked_cell : DS :=
  (sIf (tNot2 (dTru (dCall 1 G_is_cell (List.drop 0 dfl_is_cell) (aCons (dVar 0) aNil))))
    (sRaise "NoCell")
    sNil)
def dfl_checked_cell : List D := []
noncomputable def G_checked_cell : GF := fnG 1 1 D_checked_cell
def dfl_Block_has : List D := []
def dfl_law_has : List D := []
noncomputable def D_Block_size : DS :=
  (sSeq (sIf (tOr2 (dTst (dOp opIs (dFld "bottom" (dVar 0)) (dC .non))) (dTst (dOp opIs (dFld "right" (dVar 0)) (dC .non))))
    (sRet (dC .non))
    sNil)
    (sRet (dOp opMul (dOp opAdd (dOp opSub (dFld "bottom" (dVar 0)) (dFld "top" (dVar 0))) (dC (.int 1))) (dOp opAdd (dOp opSub (dFld "right" (dVar 0)) (dFld "left" (dVar 0))) (dC (.int 1))))))
def dfl_Block_size : List D := []
noncomputable def G_Block_size : GF := fnG 1 1 D_Block_size
def dfl_law_size : List D := []
def dfl_law_right : List D := []
noncomputable def D_Block_eq__ : DS :=
  (sSeq (sIf (tNot2 (dTru (dBlt (bIsU (.inr "Block")) (aCons (dVar 1) (aCons (dC (.glo "Block")) aNil)))))
    (sRet (dC (.bl false)))
    sNil)
    (sSeq (sAsg (dTup (aCons (dFld "top" (dVar 0)) (aCons (dFld "left" (dVar 0)) (aCons (dFld "bottom" (dVar 0)) (aCons (dFld "right" (dVar 0)) aNil))))) (gNm 2))
    (sRet (dOp opEq (dVar 2) (dTup (aCons (dFld "top" (dVar 1)) (aCons (dFld "left" (dVar 1)) (aCons (dFld "bottom" (dVar 1)) (aCons (dFld "right" (dVar 1)) aNil)))))))))
def dfl_Block_eq__ : List D := []
noncomputable def G_Block_eq__ : GF := fnG 3 2 D_Block_eq__
def dfl_law_alike : List D := []
noncomputable def D_row_text : DS :=
  (sSeq (sIf (dTst (dOp opIs (dVar 0) (dC .non)))
    (sRet (dC (.str "")))
    sNil)
    (sRet (dBlt bStr2 (aCons (dVar 0) aNil))))
def dfl_row_text : List D := []
noncomputable def G_row_text : GF := fnG 1 1 D_row_text
noncomputable def D_letters_of : DS :=
  (sSeq (sIf (tNot2 (dTru (dCall 1 G_is_count (List.drop 0 dfl_is_count) (aCons (dVar 0) aNil))))
    (sRaise "NoColumn")
    sNil)
    (sSeq (sAsg (dC (.str "")) (gNm 1))
    (sSeq (sWhile (dTst (dOp opGt (dVar 0) (dC (.int 0))))
    (sSeq (sAsg (dBlt bDivmod (aCons (dOp opSub (dVar 0) (dC (.int 1))) (aCons (dC (.int 26)) aNil))) (gSeq 2 (gsCons (gNm 0) (gsCons (gNm 2) gsNil))))
    (sAsg (dOp opAdd (dOp opIx (dC (.str "ABCDEFGHIJKLMNOPQRSTUVWXYZ")) (dVar 2)) (dVar 1)) (gNm 1))))
    (sRet (dVar 1)))))
def dfl_letters_of : List D := []
noncomputable def G_letters_of : GF := fnG 3 1 D_letters_of
noncomputable def D_column_text : DS :=
  (sSeq (sIf (dTst (dOp opIs (dVar 0) (dC .non)))
    (sRet (dC (.str "")))
    sNil)
    (sRet (dCall 1 G_letters_of (List.drop 0 dfl_letters_of) (aCons (dVar 0) aNil))))
def dfl_column_text : List D := []
noncomputable def G_column_text : GF := fnG 1 1 D_column_text
noncomputable def D_is_rows : DS :=
  (sRet (dAnd (dOp opEq (dFld "left" (dVar 0)) (dC (.int 1))) (dAnd (dOp opIs (dFld "right" (dVar 0)) (dC .non)) (dOp opIsN (dFld "bottom" (dVar 0)) (dC .non)))))
def dfl_is_rows : List D := []
noncomputable def G_is_rows : GF := fnG 1 1 D_is_rows
noncomputable def D_is_columns : DS :=
  (sRet (dAnd (dOp opEq (dFld "top" (dVar 0)) (dC (.int 1))) (dAnd (dOp opIs (dFld "bottom" (dVar 0)) (dC .non)) (dOp opIsN (dFld "right" (dVar 0)) (dC .non)))))
def dfl_is_columns : List D := []
noncomputable def G_is_columns : GF := fnG 1 1 D_is_columns
noncomputable def D_letters_ahead : DS :=
  (sRet (dOp opAdd (dVar 1) (dVar 0)))
def dfl_letters_ahead : List D := []
noncomputable def G_letters_ahead : GF := fnG 2 2 D_letters_ahead
def dfl_by_ends : List D := []
def dfl_Block_str__ : List D := []
def dfl_Block_repr__ : List D := []
def dfl_law_cell_at : List D := []
def dfl_law_cell : List D := []
def dfl_count_of : List D := []
def dfl_number_of : List D := []
def dfl_parted : List D := []
def dfl_block_of : List D := []
def dfl_law_asked : List D := []
def dfl_law_has_k08 : List D := []
def dfl_law_letters : List D := []
def dfl_law_text : List D := []
def dfl_law_due : List D := []
def dfl_law_k08 : List D := []
noncomputable def D_law_is_columns : DS :=
  (sRet (dAnd (dOp opEq (dOp opIx (dVar 0) (dC (.int 0))) (dC (.int 1))) (dAnd (dOp opIs (dOp opIx (dVar 0) (dC (.int 2))) (dC .non)) (dOp opIsN (dOp opIx (dVar 0) (dC (.int 3))) (dC .non)))))
def dfl_law_is_columns : List D := []
noncomputable def G_law_is_columns : GF := fnG 1 1 D_law_is_columns
noncomputable def D_law_is_rows : DS :=
  (sRet (dAnd (dOp opEq (dOp opIx (dVar 0) (dC (.int 1))) (dC (.int 1))) (dAnd (dOp opIs (dOp opIx (dVar 0) (dC (.int 3))) (dC .non)) (dOp opIsN (dOp opIx (dVar 0) (dC (.int 2))) (dC .non)))))
def dfl_law_is_rows : List D := []
noncomputable def G_law_is_rows : GF := fnG 1 1 D_law_is_rows
noncomputable def D_law_is_cell : DS :=
  (sRet (dOp opEq (dSlc (dVar 0) dNoP (dP (dC (.int 2)))) (dSlc (dVar 0) (dP (dC (.int 2))) dNoP)))
def dfl_law_is_cell : List D := []
noncomputable def G_law_is_cell : GF := fnG 1 1 D_law_is_cell
noncomputable def D_law_marks : DS :=
  (sSeq (sAsg (dLcF (iRng (aCons (dC (.int 4)) aNil)) (gNm 3) tYes' (dOp opEq (dCall 2 G_law_draw (List.drop 0 dfl_law_draw) (aCons (dVar 0) (aCons (dC (.int 2)) aNil))) (dC (.int 1))) [3]) (gNm 2))
    (sSeq (sAsg (dTup (aCons (dAnd (dOp opIx (dVar 2) (dC (.int 0))) (dNot (dCall 1 G_law_is_columns (List.drop 0 dfl_law_is_columns) (aCons (dVar 1) aNil)))) (aCons (dAnd (dOp opIx (dVar 2) (dC (.int 1))) (dAnd (dNot (dCall 1 G_law_is_columns (List.drop 0 dfl_law_is_columns) (aCons (dVar 1) aNil))) (dOp opIsN (dOp opIx (dVar 1) (dC (.int 2))) (dC .non)))) aNil))) (gNm 4))
    (sSeq (sAsg (dTup (aCons (dAnd (dOp opIx (dVar 2) (dC (.int 2))) (dNot (dCall 1 G_law_is_rows (List.drop 0 dfl_law_is_rows) (aCons (dVar 1) aNil)))) (aCons (dAnd (dOp opIx (dVar 2) (dC (.int 3))) (dAnd (dNot (dCall 1 G_law_is_rows (List.drop 0 dfl_law_is_rows) (aCons (dVar 1) aNil))) (dOp opIsN (dOp opIx (dVar 1) (dC (.int 3))) (dC .non)))) aNil))) (gNm 5))
    (sSeq (sIf (dTru (dCall 1 G_law_is_cell (List.drop 0 dfl_law_is_cell) (aCons (dVar 1) aNil)))
    (sRet (dTup (aCons (dTup (aCons (dOp opIx (dVar 4) (dC (.int 0))) (aCons (dOp opIx (dVar 4) (dC (.int 0))) aNil))) (aCons (dTup (aCons (dOp opIx (dVar 5) (dC (.int 0))) (aCons (dOp opIx (dVar 5) (dC (.int 0))) aNil))) aNil))))
    sNil)
    (sRet (dTup (aCons (dVar 4) (aCons (dVar 5) aNil))))))))
def dfl_law_marks : List D := []
noncomputable def G_law_marks : GF := fnG 6 2 D_law_marks
def dfl_law_base : List D := []
noncomputable def D_are_marks : DS :=
  (sRet (dAnd (dBlt (bIsU (.inl "tuple")) (aCons (dVar 0) (aCons (dC (.ty "tuple")) aNil))) (dAnd (dOp opEq (dBlt bLen (aCons (dVar 0) aNil)) (dC (.int 2))) (dBlt bAll (aCons (dLcF (iAny (dVar 0)) (gNm 1) tYes' (dBlt (bIsU (.inl "bool")) (aCons (dVar 1) (aCons (dC (.ty "bool")) aNil))) [1]) aNil)))))
def dfl_are_marks : List D := []
noncomputable def G_are_marks : GF := fnG 2 1 D_are_marks
noncomputable def D_may_be : DS :=
  (sSeq (sIf (tOr2 (tAnd2 (dTru (dOp opIx (dVar 0) (dC (.int 0)))) (tNot2 (dTru (dVar 1)))) (tAnd2 (dTru (dOp opIx (dVar 0) (dC (.int 1)))) (tOr2 (tNot2 (dTru (dVar 1))) (dTst (dOp opIs (dVar 2) (dC .non))))))
    (sRet (dC (.bl false)))
    sNil)
    (sRet (dOr (dNot (dVar 3)) (dOp opEq (dOp opIx (dVar 0) (dC (.int 0))) (dOp opIx (dVar 0) (dC (.int 1)))))))
def dfl_may_be : List D := []
noncomputable def G_may_be : GF := fnG 4 4 D_may_be
noncomputable def D_Name_init__ : DS :=
  (sSeq (sIf (dTst (dOp opIs (dVar 2) (dC .non)))
    (sAsg (dTup (aCons (dC (.bl false)) (aCons (dC (.bl false)) aNil))) (gNm 2))
    sNil)
    (sSeq (sIf (dTst (dOp opIs (dVar 3) (dC .non)))
    (sAsg (dTup (aCons (dC (.bl false)) (aCons (dC (.bl false)) aNil))) (gNm 3))
    sNil)
    (sSeq (sIf (tOr2 (tNot2 (dTru (dBlt (bIsU (.inr "Block")) (aCons (dVar 1) (aCons (dC (.glo "Block")) aNil))))) (tOr2 (tNot2 (dTru (dCall 1 G_are_marks (List.drop 0 dfl_are_marks) (aCons (dVar 2) aNil)))) (tNot2 (dTru (dCall 1 G_are_marks (List.drop 0 dfl_are_marks) (aCons (dVar 3) aNil))))))
    (sRaise "NoName")
    sNil)
    (sSeq (sAsg (dOp opEq (dMeth "Block" "size" 1 G_Block_size (List.drop 0 dfl_Block_size) (dVar 1) aNil) (dC (.int 1))) (gNm 4))
    (sSeq (sAsg (dCall 4 G_may_be (List.drop 0 dfl_may_be) (aCons (dVar 2) (aCons (dNot (dCall 1 G_is_columns (List.drop 0 dfl_is_columns) (aCons (dVar 1) aNil))) (aCons (dFld "bottom" (dVar 1)) (aCons (dVar 4) aNil))))) (gNm 5))
    (sSeq (sIf (tOr2 (tNot2 (dTru (dVar 5))) (tNot2 (dTru (dCall 4 G_may_be (List.drop 0 dfl_may_be) (aCons (dVar 3) (aCons (dNot (dCall 1 G_is_rows (List.drop 0 dfl_is_rows) (aCons (dVar 1) aNil))) (aCons (dFld "right" (dVar 1)) (aCons (dVar 4) aNil))))))))
    (sRaise "NoName")
    sNil)
    (sSeq (sFldSet "block" (dVar 0) (dVar 1))
    (sSeq (sFldSet "rows" (dVar 0) (dVar 2))
    (sFldSet "columns" (dVar 0) (dVar 3))))))))))
def dfl_Name_init__ : List D := [.non, .non]
noncomputable def G_Name_init__ : GF := fnG 6 4 D_Name_init__
def dfl_law_put : List D := []
def dfl_law_in_letters : List D := []
noncomputable def D_checked_manner : DS :=
  (sSeq (sIf (dTst (dOp (opIn2 true) (dVar 0) (dC (.tup [.str "letters", .str "numbers"]))))
    (sRaise "NoManner")
    sNil)
    (sSeq (sIf (dTst (dOp opIs (dVar 1) (dC .non)))
    (sAsg (dTup (aCons (dC (.int 1)) (aCons (dC (.int 1)) aNil))) (gNm 1))
    sNil)
    (sSeq (sExp (dCall 1 G_checked_cell (List.drop 0 dfl_checked_cell) (aCons (dVar 1) aNil)))
    (sRet (dVar 1)))))
def dfl_checked_manner : List D := []
noncomputable def G_checked_manner : GF := fnG 2 2 D_checked_manner
noncomputable def D_fast_text : DS :=
  (sSeq (sIf (dTru (dVar 1))
    (sRet (dOp opAdd (dC (.str "$")) (dVar 0)))
    sNil)
    (sRet (dVar 0)))
def dfl_fast_text : List D := []
noncomputable def G_fast_text : GF := fnG 2 2 D_fast_text
noncomputable def D_numbers_beside : DS :=
  (sRet (dOp opAdd (dVar 0) (dVar 1)))
def dfl_numbers_beside : List D := []
noncomputable def G_numbers_beside : GF := fnG 2 2 D_numbers_beside
noncomputable def D_by_ends_k22 : DS :=
  (sSeq (sIf (dTru (dCall 1 G_is_rows (List.drop 0 dfl_is_rows) (aCons (dVar 0) aNil)))
    (sRet (dOp opAdd (dOp opAdd (dOp opIx (dVar 1) (dC (.int 0))) (dC (.str ":"))) (dOp opIx (dVar 1) (dC (.int 1)))))
    sNil)
    (sSeq (sIf (dTru (dCall 1 G_is_columns (List.drop 0 dfl_is_columns) (aCons (dVar 0) aNil)))
    (sRet (dOp opAdd (dOp opAdd (dOp opIx (dVar 2) (dC (.int 0))) (dC (.str ":"))) (dOp opIx (dVar 2) (dC (.int 1)))))
    sNil)
    (sSeq (sAsg (dCallA 3 (aCons (dOp opIx (dVar 1) (dC (.int 0))) (aCons (dOp opIx (dVar 2) (dC (.int 0))) aNil)) [("letters_ahead", 2, G_letters_ahead), ("numbers_beside", 2, G_numbers_beside)]) (gNm 4))
    (sSeq (sIf (dTst (dOp opEq (dMeth "Block" "size" 1 G_Block_size (List.drop 0 dfl_Block_size) (dVar 0) aNil) (dC (.int 1))))
    (sRet (dVar 4))
    sNil)
    (sRet (dOp opAdd (dOp opAdd (dVar 4) (dC (.str ":"))) (dCallA 3 (aCons (dOp opIx (dVar 1) (dC (.int 1))) (aCons (dOp opIx (dVar 2) (dC (.int 1))) aNil)) [("letters_ahead", 2, G_letters_ahead), ("numbers_beside", 2, G_numbers_beside)])))))))
def dfl_by_ends_k22 : List D := []
noncomputable def G_by_ends_k22 : GF := fnG 5 4 D_by_ends_k22
noncomputable def D_far_text : DS :=
  (sSeq (sIf (dTst (dOp opIs (dVar 1) (dC .non)))
    (sRet (dC (.str "")))
    sNil)
    (sSeq (sIf (dTru (dVar 2))
    (sRet (dOp opAdd (dVar 0) (dBlt bStr2 (aCons (dVar 1) aNil))))
    sNil)
    (sSeq (sIf (dTst (dOp opEq (dVar 1) (dVar 3)))
    (sRet (dVar 0))
    sNil)
    (sRet (dOp opAdd (dOp opAdd (dOp opAdd (dVar 0) (dC (.str "["))) (dBlt bStr2 (aCons (dOp opSub (dVar 1) (dVar 3)) aNil))) (dC (.str "]")))))))
def dfl_far_text : List D := []
noncomputable def G_far_text : GF := fnG 4 4 D_far_text
noncomputable def D_Name_shown : DS :=
  (sSeq (sAsg (dCall 2 G_checked_manner (List.drop 0 dfl_checked_manner) (aCons (dVar 1) (aCons (dVar 2) aNil))) (gNm 3))
    (sSeq (sAsg (dLst (aCons (dTup (aCons (dFld "top" (dFld "block" (dVar 0))) (aCons (dOp opIx (dFld "rows" (dVar 0)) (dC (.int 0))) aNil))) (aCons (dTup (aCons (dFld "bottom" (dFld "block" (dVar 0))) (aCons (dOp opIx (dFld "rows" (dVar 0)) (dC (.int 1))) aNil))) aNil))) (gNm 4))
    (sSeq (sAsg (dLst (aCons (dTup (aCons (dFld "left" (dFld "block" (dVar 0))) (aCons (dOp opIx (dFld "columns" (dVar 0)) (dC (.int 0))) aNil))) (aCons (dTup (aCons (dFld "right" (dFld "block" (dVar 0))) (aCons (dOp opIx (dFld "columns" (dVar 0)) (dC (.int 1))) aNil))) aNil))) (gNm 5))
    (sSeq (sIf (dTst (dOp opEq (dVar 1) (dC (.str "letters"))))
    (sSeq (sAsg (dLcF (iAny (dVar 4)) (gSeq 2 (gsCons (gNm 7) (gsCons (gNm 8) gsNil))) tYes' (dCall 2 G_fast_text (List.drop 0 dfl_fast_text) (aCons (dCall 1 G_row_text (List.drop 0 dfl_row_text) (aCons (dVar 7) aNil)) (aCons (dVar 8) aNil))) [7, 8]) (gNm 6))
    (sSeq (sAsg (dLcF (iAny (dVar 5)) (gSeq 2 (gsCons (gNm 7) (gsCons (gNm 8) gsNil))) tYes' (dCall 2 G_fast_text (List.drop 0 dfl_fast_text) (aCons (dCall 1 G_column_text (List.drop 0 dfl_column_text) (aCons (dVar 7) aNil)) (aCons (dVar 8) aNil))) [7, 8]) (gNm 9))
    (sRet (dCall 4 G_by_ends_k22 (List.drop 0 dfl_by_ends_k22) (aCons (dFld "block" (dVar 0)) (aCons (dVar 6) (aCons (dVar 9) (aCons (dC (.glo "letters_ahead")) aNil))))))))
    sNil)
    (sSeq (sAsg (dLcF (iAny (dVar 4)) (gSeq 2 (gsCons (gNm 7) (gsCons (gNm 8) gsNil))) tYes' (dCall 4 G_far_text (List.drop 0 dfl_far_text) (aCons (dC (.str "R")) (aCons (dVar 7) (aCons (dVar 8) (aCons (dOp opIx (dVar 3) (dC (.int 0))) aNil))))) [7, 8]) (gNm 6))
    (sSeq (sAsg (dLcF (iAny (dVar 5)) (gSeq 2 (gsCons (gNm 7) (gsCons (gNm 8) gsNil))) tYes' (dCall 4 G_far_text (List.drop 0 dfl_far_text) (aCons (dC (.str "C")) (aCons (dVar 7) (aCons (dVar 8) (aCons (dOp opIx (dVar 3) (dC (.int 1))) aNil))))) [7, 8]) (gNm 9))
    (sRet (dCall 4 G_by_ends_k22 (List.drop 0 dfl_by_ends_k22) (aCons (dFld "block" (dVar 0)) (aCons (dVar 6) (aCons (dVar 9) (aCons (dC (.glo "numbers_beside")) aNil))))))))))))
def dfl_Name_shown : List D := [(.str "letters"), .non]
noncomputable def G_Name_shown : GF := fnG 10 3 D_Name_shown
noncomputable def D_Name_str__ : DS :=
  (sRet (dBlt bStr2 (aCons (dMeth "Name" "shown" 3 G_Name_shown (List.drop 0 dfl_Name_shown) (dVar 0) aNil) aNil)))
def dfl_Name_str__ : List D := []
noncomputable def G_Name_str__ : GF := fnG 1 1 D_Name_str__
def dfl_law_shown : List D := []
def dfl_Name_repr__ : List D := []
def dfl_Block_str___k22 : List D := []
def dfl_block_of_k22 : List D := []
def dfl_marks_in : List D := []
def dfl_read_letters : List D := []
def dfl_far_of : List D := []
def dfl_ends_in : List D := []
def dfl_read_numbers : List D := []
def dfl_read_name : List D := [(.str "letters"), .non]
def dfl_law_read : List D := []
noncomputable def D_Name_eq__ : DS :=
  (sSeq (sIf (tOr2 (tNot2 (dTru (dBlt (bIsU (.inr "Name")) (aCons (dVar 1) (aCons (dC (.glo "Name")) aNil))))) (dTst (dNe "Block" G_Block_eq__ (dFld "block" (dVar 0)) (dFld "block" (dVar 1)))))
    (sRet (dC (.bl false)))
    sNil)
    (sRet (dOp opEq (dTup (aCons (dFld "rows" (dVar 0)) (aCons (dFld "columns" (dVar 0)) aNil))) (dTup (aCons (dFld "rows" (dVar 1)) (aCons (dFld "columns" (dVar 1)) aNil))))))
def dfl_Name_eq__ : List D := []
noncomputable def G_Name_eq__ : GF := fnG 2 2 D_Name_eq__
def dfl_law_far : List D := []
def dfl_law_in_numbers : List D := []
def dfl_law_right_k22 : List D := []
def dfl_law_right_k23 : List D := []
noncomputable def D_law_word : DS :=
  (sSeq (sAsg (dLst (aCons (dBlt (bIsX (["NoCell", "NoColumn", "NoBlock", "NoName"] : List Str) (.inr "NoCell")) (aCons (dVar 0) (aCons (dC (.glo "NoCell")) aNil))) (aCons (dBlt (bIsX (["NoCell", "NoColumn", "NoBlock", "NoName"] : List Str) (.inr "NoColumn")) (aCons (dVar 0) (aCons (dC (.glo "NoColumn")) aNil))) (aCons (dBlt (bIsX (["NoCell", "NoColumn", "NoBlock", "NoName"] : List Str) (.inr "NoBlock")) (aCons (dVar 0) (aCons (dC (.glo "NoBlock")) aNil))) (aCons (dBlt (bIsX (["NoCell", "NoColumn", "NoBlock", "NoName"] : List Str) (.inr "NoText")) (aCons (dVar 0) (aCons (dC (.glo "NoText")) aNil))) aNil))))) (gNm 1))
    (sSeq (sAsg (dOp opAdd (dVar 1) (dLst (aCons (dBlt (bIsX (["NoCell", "NoColumn", "NoBlock", "NoName"] : List Str) (.inr "NoName")) (aCons (dVar 0) (aCons (dC (.glo "NoName")) aNil))) (aCons (dBlt (bIsX (["NoCell", "NoColumn", "NoBlock", "NoName"] : List Str) (.inr "NoManner")) (aCons (dVar 0) (aCons (dC (.glo "NoManner")) aNil))) (aCons (dBlt (bIsX (["NoCell", "NoColumn", "NoBlock", "NoName"] : List Str) (.inr "Gone")) (aCons (dVar 0) (aCons (dC (.glo "Gone")) aNil))) (aCons (dBlt (bIsX (["NoCell", "NoColumn", "NoBlock", "NoName"] : List Str) (.inr "NoNumber")) (aCons (dVar 0) (aCons (dC (.glo "NoNumber")) aNil))) aNil)))))) (gNm 1))
    (sSeq (sAsg (dIsXT (["NoCell", "NoColumn", "NoBlock", "NoName"] : List Str) ["Endless", "NoArea", "NoChange", "NoOrder", "NoPlace", "NoRow"] (dVar 0)) (gNm 2))
    (sSeq (sAsg (dOr (dVar 2) (dIsXT (["NoCell", "NoColumn", "NoBlock", "NoName"] : List Str) ["NoSheet", "NoValue", "NoWord", "Ring", "Unknown"] (dVar 0))) (gNm 2))
    (sSeq (sAsg (dLst (aCons (dC (.str "cell")) (aCons (dC (.str "column")) (aCons (dC (.str "block")) (aCons (dC (.str "text")) (aCons (dC (.str "name")) (aCons (dC (.str "manner")) (aCons (dC (.str "gone")) (aCons (dC (.str "number")) aNil))))))))) (gNm 3))
    (sSeq (sIf (tOr2 (dTru (dVar 2)) (tNot2 (dTru (dBlt (bIsX (["NoCell", "NoColumn", "NoBlock", "NoName"] : List Str) (.inl "ValueError")) (aCons (dVar 0) (aCons (dC (.ty "ValueError")) aNil))))))
    (sRet (dC (.str "other")))
    sNil)
    (sRet (dM1 dJoin (dC (.str " ")) (dLcF (iRng (aCons (dC (.int 8)) aNil)) (gNm 4) (dTru (dOp opIx (dVar 1) (dVar 4))) (dOp opIx (dVar 3) (dVar 4)) [4])))))))))
def dfl_law_word : List D := []
noncomputable def G_law_word : GF := fnG 5 1 D_law_word
def dfl_law_refused : List D := []
def dfl_checked_move : List D := []
def dfl_law_by : List D := []
def dfl_law_moved : List D := []
def dfl_law_ahead : List D := []
def dfl_law_turned : List D := []
def dfl_law_copied_k24 : List D := []
def dfl_moved : List D := []
def dfl_ahead_of_first : List D := []
def dfl_Gone_init__ : List D := [(.int 0), (.int 0)]
def dfl_in_order : List D := []
def dfl_of_cell : List D := []
def dfl_Name_copied_k24 : List D := [(.int 0), (.int 0)]
def dfl_law_told : List D := []
def dfl_law_word_k24 : List D := []
def dfl_law_gone_alone : List D := []
def dfl_law_left_out : List D := []
def dfl_law_k24 : List D := []
def dfl_law_fields : List D := []
def dfl_law_asked_k29 : List D := []
def dfl_law_due_k29 : List D := []
noncomputable def D_law_may : DS :=
  (sSeq (sIf (dTru (dCall 1 G_law_is_cell (List.drop 0 dfl_law_is_cell) (aCons (dVar 0) aNil)))
    (sRet (dAnd (dOp opEq (dOp opIx (dVar 1) (dC (.int 0))) (dOp opIx (dVar 1) (dC (.int 1)))) (dOp opEq (dOp opIx (dVar 2) (dC (.int 0))) (dOp opIx (dVar 2) (dC (.int 1))))))
    sNil)
    (sSeq (sAsg (dOr (dNot (dOr (dOp opIx (dVar 1) (dC (.int 0))) (dOp opIx (dVar 1) (dC (.int 1))))) (dNot (dCall 1 G_law_is_columns (List.drop 0 dfl_law_is_columns) (aCons (dVar 0) aNil)))) (gNm 3))
    (sSeq (sAsg (dAnd (dVar 3) (dOr (dNot (dOp opIx (dVar 1) (dC (.int 1)))) (dOp opIsN (dOp opIx (dVar 0) (dC (.int 2))) (dC .non)))) (gNm 3))
    (sSeq (sAsg (dAnd (dVar 3) (dOr (dNot (dOr (dOp opIx (dVar 2) (dC (.int 0))) (dOp opIx (dVar 2) (dC (.int 1))))) (dNot (dCall 1 G_law_is_rows (List.drop 0 dfl_law_is_rows) (aCons (dVar 0) aNil))))) (gNm 3))
    (sRet (dAnd (dVar 3) (dOr (dNot (dOp opIx (dVar 2) (dC (.int 1)))) (dOp opIsN (dOp opIx (dVar 0) (dC (.int 3))) (dC .non)))))))))
def dfl_law_may : List D := []
noncomputable def G_law_may : GF := fnG 4 3 D_law_may
noncomputable def D_law_tried : DS :=
  (sSeq (dTry (["NoCell", "NoColumn", "NoBlock", "NoName"] : List Str) "CellError" 5
    (sIf (dTst (dOp opEq (dVar 3) (dC (.int 0))))
    (sAsg (dMake "Name" 4 G_Name_init__ (List.drop 2 dfl_Name_init__) (aCons (dVar 0) (aCons (dVar 1) (aCons (dVar 2) aNil)))) (gNm 4))
    (sIf (dTst (dOp opEq (dVar 3) (dC (.int 1))))
    (sAsg (dMake "Name" 4 G_Name_init__ [] (aPick 0 (List.length (["columns", "rows", "block"] : List Str)) [2, 1, 0] dfl_Name_init__ aNil (aCons (dVar 2) (aCons (dVar 1) (aCons (dVar 0) aNil))))) (gNm 4))
    (sAsg (dMake "Name" 4 G_Name_init__ [] (aPick 1 (List.length (["columns", "rows"] : List Str)) [0, 2, 1] dfl_Name_init__ (aCons (dVar 0) aNil) (aCons (dVar 2) (aCons (dVar 1) aNil)))) (gNm 4))))
    (sRet (dTup (aCons (dC (.str "refused")) (aCons (dCall 1 G_law_word [] (aCons (dVar 5) aNil)) aNil)))))
    (sRet (dTup (aCons (dC (.str "told")) (aCons (dTup (aCons (dFld "block" (dVar 4)) (aCons (dFld "rows" (dVar 4)) (aCons (dFld "columns" (dVar 4)) aNil)))) aNil)))))
def dfl_law_tried : List D := []
noncomputable def G_law_tried : GF := fnG 6 4 D_law_tried
noncomputable def D_law_all_ways : DS :=
  (sSeq (dFor (iRng (aCons (dC (.int 16)) aNil)) (gNm 3)
    (sSeq (sAsg (dTup (aCons (dOp opEq (dOp opMod (dVar 3) (dC (.int 2))) (dC (.int 1))) (aCons (dOp opEq (dOp opMod (dOp opDiv (dVar 3) (dC (.int 2))) (dC (.int 2))) (dC (.int 1))) aNil))) (gNm 4))
    (sSeq (sAsg (dTup (aCons (dOp opEq (dOp opMod (dOp opDiv (dVar 3) (dC (.int 4))) (dC (.int 2))) (dC (.int 1))) (aCons (dOp opEq (dOp opDiv (dVar 3) (dC (.int 8))) (dC (.int 1))) aNil))) (gNm 5))
    (sSeq (sAsg (dTup (aCons (dC (.str "refused")) (aCons (dC (.str "name")) aNil))) (gNm 6))
    (sSeq (sIf (dTru (dCall 3 G_law_may (List.drop 0 dfl_law_may) (aCons (dVar 0) (aCons (dVar 4) (aCons (dVar 5) aNil)))))
    (sAsg (dTup (aCons (dC (.str "told")) (aCons (dTup (aCons (dVar 1) (aCons (dVar 4) (aCons (dVar 5) aNil)))) aNil))) (gNm 6))
    sNil)
    (sIf (dTst (dNeO [("Block", G_Block_eq__)] (dCall 4 G_law_tried (List.drop 0 dfl_law_tried) (aCons (dVar 1) (aCons (dVar 4) (aCons (dVar 5) (aCons (dCall 2 G_law_draw (List.drop 0 dfl_law_draw) (aCons (dVar 2) (aCons (dC (.int 3)) aNil))) aNil))))) (dVar 6)))
    (sRet (dC (.bl false)))
    sNil))))))
    (sRet (dC (.bl true))))
def dfl_law_all_ways : List D := []
noncomputable def G_law_all_ways : GF := fnG 7 3 D_law_all_ways
noncomputable def D_law_bad : DS :=
  (sSeq (sAsg (dLst (aCons (dLst (aCons (dC (.bl false)) (aCons (dC (.bl false)) aNil))) (aCons (dTup (aCons (dC (.bl false)) aNil)) (aCons (dTup (aCons (dC (.bl false)) (aCons (dC (.bl false)) (aCons (dC (.bl false)) aNil)))) (aCons (dTup (aCons (dC (.int 0)) (aCons (dC (.int 0)) aNil))) (aCons (dTup (aCons (dC (.int 1)) (aCons (dC (.bl false)) aNil))) (aCons (dC (.bl false)) (aCons (dC (.int 0)) (aCons (dC (.str "")) (aCons (dTup (aCons (dC .non) (aCons (dC .non) aNil))) (aCons (dTup aNil) aNil))))))))))) (gNm 1))
    (sRet (dOp opIx (dVar 1) (dCall 2 G_law_draw (List.drop 0 dfl_law_draw) (aCons (dVar 0) (aCons (dC (.int 10)) aNil))))))
def dfl_law_bad : List D := []
noncomputable def G_law_bad : GF := fnG 2 1 D_law_bad
noncomputable def D_law_others_refused : DS :=
  (sSeq (sAsg (dLst (aCons (dTup (aCons (dVar 0) (aCons (dCall 1 G_law_bad (List.drop 0 dfl_law_bad) (aCons (dVar 3) aNil)) (aCons (dVar 2) aNil)))) (aCons (dTup (aCons (dVar 0) (aCons (dVar 1) (aCons (dCall 1 G_law_bad (List.drop 0 dfl_law_bad) (aCons (dVar 3) aNil)) aNil)))) (aCons (dTup (aCons (dVar 0) (aCons (dCall 1 G_law_bad (List.drop 0 dfl_law_bad) (aCons (dVar 3) aNil)) (aCons (dCall 1 G_law_bad (List.drop 0 dfl_law_bad) (aCons (dVar 3) aNil)) aNil)))) aNil)))) (gNm 4))
    (sSeq (sAsg (dLst (aCons (dC .non) (aCons (dC (.str "A1")) (aCons (dTup (aCons (dC (.int 1)) (aCons (dC (.int 1)) (aCons (dC (.int 1)) (aCons (dC (.int 1)) aNil))))) (aCons (dLst (aCons (dVar 0) aNil)) (aCons (dC (.bl true)) (aCons (dC (.int 5)) (aCons dDct0 (aCons (dMake "Name" 4 G_Name_init__ (List.drop 0 dfl_Name_init__) (aCons (dVar 0) aNil)) aNil))))))))) (gNm 5))
    (sSeq (sAsg (dOp opAdd (dVar 4) (dLst (aCons (dTup (aCons (dOp opIx (dVar 5) (dCall 2 G_law_draw (List.drop 0 dfl_law_draw) (aCons (dVar 3) (aCons (dC (.int 8)) aNil)))) (aCons (dVar 1) (aCons (dVar 2) aNil)))) (aCons (dTup (aCons (dOp opIx (dVar 5) (dCall 2 G_law_draw (List.drop 0 dfl_law_draw) (aCons (dVar 3) (aCons (dC (.int 8)) aNil)))) (aCons (dCall 1 G_law_bad (List.drop 0 dfl_law_bad) (aCons (dVar 3) aNil)) (aCons (dVar 2) aNil)))) aNil)))) (gNm 4))
    (sSeq (dFor (iAny (dVar 4)) (gNm 6)
    (sIf (dTst (dOp opNe (dCall 4 G_law_tried (List.drop 0 dfl_law_tried) (aCons (dOp opIx (dVar 6) (dC (.int 0))) (aCons (dOp opIx (dVar 6) (dC (.int 1))) (aCons (dOp opIx (dVar 6) (dC (.int 2))) (aCons (dCall 2 G_law_draw (List.drop 0 dfl_law_draw) (aCons (dVar 3) (aCons (dC (.int 3)) aNil))) aNil))))) (dTup (aCons (dC (.str "refused")) (aCons (dC (.str "name")) aNil)))))
    (sRet (dC (.bl false)))
    sNil))
    (sRet (dC (.bl true)))))))
def dfl_law_others_refused : List D := []
noncomputable def G_law_others_refused : GF := fnG 7 4 D_law_others_refused
noncomputable def D_law_k21 : DS :=
  (sSeq (sCel 1 aNil)
    (sSeq (dFor (iAny (dOp opAdd (dSlc (dVar 0) dNoP (dP (dC (.int 12)))) (dLst (aCons (dC (.int 1)) (aCons (dC (.int 4)) (aCons (dC (.int 9)) aNil)))))) (gNm 2)
    (sSeq (sNew 3 (dCallN 1 G_law_well (List.drop 0 dfl_law_well) (aCons (dVar 2) aNil)))
    (sSeq (sAsg (dCall 1 G_law_block (List.drop 0 dfl_law_block) (aCons (dVar 3) aNil)) (gNm 4))
    (sSeq (sAsg (dCall 2 G_law_marks (List.drop 0 dfl_law_marks) (aCons (dVar 3) (aCons (dVar 4) aNil))) (gSeq 2 (gsCons (gNm 5) (gsCons (gNm 6) gsNil))))
    (sSeq (sAsg (dMake "Block" 5 G_Block_init__ (List.drop 4 dfl_Block_init__) (aCons (dOp opIx (dVar 4) (dC (.int 0))) (aCons (dOp opIx (dVar 4) (dC (.int 1))) (aCons (dOp opIx (dVar 4) (dC (.int 2))) (aCons (dOp opIx (dVar 4) (dC (.int 3))) aNil))))) (gNm 7))
    (sSeq (sIf (tOr2 (tNot2 (dTru (dCall 3 G_law_all_ways (List.drop 0 dfl_law_all_ways) (aCons (dVar 4) (aCons (dVar 7) (aCons (dVar 3) aNil)))))) (tNot2 (dTru (dCall 4 G_law_others_refused (List.drop 0 dfl_law_others_refused) (aCons (dVar 7) (aCons (dVar 5) (aCons (dVar 6) (aCons (dVar 3) aNil))))))))
    (sRet (dC (.bl false)))
    sNil)
    (sSeq (sAsg (dMake "Name" 4 G_Name_init__ (List.drop 2 dfl_Name_init__) (aCons (dVar 7) (aCons (dVar 5) (aCons (dVar 6) aNil)))) (gNm 8))
    (sSeq (sAsg (dMake "Name" 4 G_Name_init__ (List.drop 0 dfl_Name_init__) (aCons (dVar 7) aNil)) (gNm 9))
    (sSeq (dFor (iAny (dLst (aCons (dVar 9) (aCons (dMake "Name" 4 G_Name_init__ (List.drop 2 dfl_Name_init__) (aCons (dVar 7) (aCons (dC .non) (aCons (dC .non) aNil)))) (aCons (dMake "Name" 4 G_Name_init__ [] (aPick 0 (List.length (["columns", "block"] : List Str)) [1, 2, 0] dfl_Name_init__ aNil (aCons (dC .non) (aCons (dVar 7) aNil)))) aNil))))) (gNm 10)
    (sIf (tOr2 (dTst (dOp opNe (dTup (aCons (dFld "rows" (dVar 10)) (aCons (dFld "columns" (dVar 10)) aNil))) (dTup (aCons (dTup (aCons (dC (.bl false)) (aCons (dC (.bl false)) aNil))) (aCons (dTup (aCons (dC (.bl false)) (aCons (dC (.bl false)) aNil))) aNil))))) (tNot2 (dTst (dOwn "Block" G_Block_eq__ (dFld "block" (dVar 10)) (dVar 7)))))
    (sRet (dC (.bl false)))
    sNil))
    (sSeq (sAsg (dMake "Name" 4 G_Name_init__ [] (aPick 1 (List.length (["columns", "rows"] : List Str)) [0, 2, 1] dfl_Name_init__ (aCons (dMake "Block" 5 G_Block_init__ (List.drop 4 dfl_Block_init__) (aCons (dOp opIx (dVar 4) (dC (.int 0))) (aCons (dOp opIx (dVar 4) (dC (.int 1))) (aCons (dOp opIx (dVar 4) (dC (.int 2))) (aCons (dOp opIx (dVar 4) (dC (.int 3))) aNil))))) aNil) (aCons (dVar 6) (aCons (dVar 5) aNil)))) (gNm 11))
    (sSeq (sIf (tOr2 (tNot2 (dTst (dOwn "Name" G_Name_eq__ (dVar 8) (dVar 11)))) (tOr2 (dTst (dNe "Name" G_Name_eq__ (dVar 8) (dVar 11))) (dTst (dOp opNe (dOwn "Name" G_Name_eq__ (dVar 8) (dVar 9)) (dOp (opIn true) (dC (.bl true)) (dOp opAddT (dVar 5) (dVar 6)))))))
    (sRet (dC (.bl false)))
    sNil)
    (sSeq (dFor (iAny (dLst (aCons (dVar 7) (aCons (dObS "Name" G_Name_str__ (dVar 8)) (aCons (dC .non) (aCons (dTup (aCons (dVar 7) (aCons (dVar 5) (aCons (dVar 6) aNil)))) (aCons (dC (.bl true)) (aCons dDct0 aNil)))))))) (gNm 12)
    (sIf (tOr2 (dTst (dOwn "Name" G_Name_eq__ (dVar 8) (dVar 12))) (tNot2 (dTst (dNe "Name" G_Name_eq__ (dVar 8) (dVar 12)))))
    (sRet (dC (.bl false)))
    sNil))
    (sApp (dVar 1) (dTup (aCons (dVar 8) (aCons (dTup (aCons (dVar 4) (aCons (dVar 5) (aCons (dVar 6) aNil)))) aNil))))))))))))))))
    (sSeq (dFor (iAny (dRevA (dVar 1))) (gSeq 2 (gsCons (gNm 10) (gsCons (gNm 13) gsNil)))
    (dFor (iAny (dVar 1)) (gSeq 2 (gsCons (gNm 11) (gsCons (gNm 14) gsNil)))
    (sIf (tOr2 (dTst (dOp opNe (dOwn "Name" G_Name_eq__ (dVar 10) (dVar 11)) (dOp opEq (dVar 13) (dVar 14)))) (dTst (dOp opEq (dNe "Name" G_Name_eq__ (dVar 10) (dVar 11)) (dOp opEq (dVar 13) (dVar 14)))))
    (sRet (dC (.bl false)))
    sNil)))
    (sRet (dC (.bl true))))))
def dfl_law_k21 : List D := []
noncomputable def G_law_k21 : GF := fnG 15 1 D_law_k21
end PG
namespace PG
open PySem PySem.Spec PyProof.Rows L2 DL
local macro_rules | `(tactic| trivial) => `(tactic| simp (config := { dsimp := false }) only [*, eq_self, DL.w_ok, DL.w_ex, DL.w_bind, DL.w_bindS, DL.o_some, DL.w_dC, DL.w_var, DL.w_op, DL.a_nil, DL.a_cons, DL.w_tup, DL.w_lst, DL.w_blt, DL.w_call, DL.w_callN, DL.w_or, DL.w_and, DL.w_not, DL.w_neg, DL.w_if, DL.w_chain, DL.t_tru, DL.t_tst, DL.t_and, DL.t_or, DL.t_not, DL.p_no, DL.p_some, DL.w_slc, DL.w_m1, DL.w_m0, DL.w_fld, DL.s_nil, DL.s_brk, DL.s_cnt, DL.s_retN, DL.s_raise, DL.s_seq, DL.s_ret, DL.s_exp, DL.s_if, DL.s_set, DL.s_new, DL.s_cel, DL.s_retC, DL.s_par, DL.s_asg, DL.e_add, DL.e_sub, DL.e_mulR, DL.e_mulL, DL.e_modS, DL.e_divS, DL.e_pow, DL.e_lt, DL.e_le, DL.e_gt, DL.e_ge, DL.e_is, DL.e_isN, DL.e_eqI, DL.e_neI, DL.e_eqS, DL.e_neS, DL.h_bl, DL.h_int, DL.h_non, DL.b_bl, DL.i_int, DL.s_str, DL.l_lst, DL.q_lst, DL.q_tup, DL.c_lst, DL.c_seq, DL.c_lis, DL.x_cel, DL.x_lst, DL.x_tup, DL.at_nn, DL.ix_in, DL.p_cel, DL.e_mulIf, DL.e_mulM, DL.t_len, DL.t_intB, DL.start, DL.s_setIx, DL.s_for, DL.i_rng, DL.i_rng2, DL.w_lc, DL.r_one, DL.s_app, DL.g_cel, DL.w_dct0, DL.w_meth, DL.isC_obj, DL.w_make, DL.w_pick, DL.pick_cons, DL.pick_nil, DL.w_own, DL.w_ne, DL.w_obS, DL.cls_obj, DL.fld_obj, DL.w_fmt, DL.w_fs, DL.w_fsNil, DL.w_fsCons, DL.w_isT, DL.w_revA, DL.s_try, DL.s_raiseI, DL.s_tryP, DL.s_endX, DL.w_isXT, DL.i_any, DL.ia_tup, DL.ia_str, DL.ia_lst, DL.ia_scr, DL.ia_cel, DL.gl_glo, DL.w_callA, DL.s_tryN, DL.s_never, DL.s_fld, DL.w_listN, DL.g_seq, DL.g_cons, DL.g_nil, DL.g_nm, DL.t_yes, DL.wipe_cons, DL.wipe_nil, DL.nn_non, DL.nn_int, DL.nn_str, DL.nn_bl, DL.nn_tup, DL.nn_lst, DL.w_fmR, DL.w_owns, DL.w_nes, DL.w_obSs, DL.w_meths, List.map_cons, List.map_nil, List.length_cons, List.length_nil, List.cons_append, List.nil_append, List.append_nil, List.drop_zero, List.drop_nil, List.drop_succ_cons, List.getElem?_cons_zero, List.getElem?_cons_succ, List.set_cons_zero, List.set_cons_succ, List.replicate_succ, List.replicate_zero, Option.join_some, Option.map_some, if_true, if_false, Bool.not_true, Bool.not_false, true_and, and_true, Nat.reduceAdd, Nat.reduceSub, Nat.reduceLeDiff, decide_true, decide_false, Bool.false_eq_true, Option.bind_some, Int.reduceToNat, List.getElem?_set_self, Int.reduceLT, Int.reduceLE, Int.reduceNeg, Int.reduceSub, Int.reduceAdd, Int.reduceMul, Int.reducePow, Nat.reduceLT, Int.reduceEq, ite_self, PG.dfl_law_draw, PG.dfl_law_well])
/-! the well of numbers, and what is drawn -/
theorem well_k {μ : List M} {c : Int} {Q : List D → List M → Prop} {X : XP} (hc : Cln μ) (k : ∀ a b : Int, Q [.int a, .int b, .int 0] μ) : WO (G_law_well [.int c] μ) Q X ⟨⟩ := by
  refine WO.use (Q' := fun l m => ∃ a b, l = [.int a, .int b, .int 0] ∧ m = μ) (k' := ⟨⟩) ?_ (by rintro l m ⟨a, b, rfl, rfl⟩; exact k a b)
  unfold G_law_well
  refine wo_fnN rfl ?_
  unfold D_law_well
  trivial
  exact ⟨_, _, rfl, Nat.le_refl _, List.getElem?_concat_length, rfl, hc.snoc rfl, _, _, rfl, List.take_left⟩
def Well (μ : List M) (i : Nat) : Prop := ∃ a b c : Int, μ[i]? = some (.lst [.int a, .int b, .int c])
theorem take_set {μ : List M} {i : Nat} {x : M} : (μ.set i x).take μ.length = μ.set i x := List.take_of_length_le (by rw [List.length_set]; exact Nat.le_refl _)
theorem draw_ok {μ : List M} {i : Nat} {n : Int} (hc : Cln μ) (hw : Well μ i) (hn : 0 < n) (hn2 : n < 9223372036854775808) : WO (G_law_draw [.cel i, .int n] μ) (fun x m => ∃ r a b c : Int, x = .int r ∧ 0 ≤ r ∧ r < n ∧ m = μ.set i (.lst [.int a, .int b, .int c])) xNo ⟨⟩ := by
  obtain ⟨a, b, c, hw⟩ := hw
  have hi : i < μ.length := (List.getElem?_eq_some_iff.mp hw).1
  unfold G_law_draw
  refine wo_fn rfl ?_
  unfold D_law_draw
  trivial
  by_cases h : 0 < a
  · trivial
    exact ⟨rfl, hc.set rfl, _, _, _, _, rfl, Int.emod_nonneg _ (by omega), Int.emod_lt_of_pos _ hn, take_set⟩
  · trivial
    exact ⟨rfl, hc.set rfl, _, _, _, _, rfl, Int.emod_nonneg _ (by omega), Int.emod_lt_of_pos _ hn, take_set⟩
/-- m is μ but for the well at i -/
structure Dr (μ : List M) (i : Nat) (m : List M) : Prop where
  cln0 : Cln μ
  lt : i < μ.length
  ex : ∃ a b c : Int, m = μ.set i (.lst [.int a, .int b, .int c])
section
variable {μ m m' : List M} {i : Nat}
theorem Dr.cln (h : Dr μ i m) : Cln m := by
  obtain ⟨a, b, c, rfl⟩ := h.ex
  exact h.cln0.set rfl
theorem Dr.len (h : Dr μ i m) : m.length = μ.length := by
  obtain ⟨a, b, c, rfl⟩ := h.ex
  exact List.length_set
theorem Dr.well (h : Dr μ i m) : Well m i := by
  obtain ⟨a, b, c, rfl⟩ := h.ex
  exact ⟨a, b, c, List.getElem?_set_self h.lt⟩
theorem Dr.of (hc : Cln μ) (h : Well μ i) : Dr μ i μ := by
  obtain ⟨a, b, c, h⟩ := h
  obtain ⟨hi, h⟩ := List.getElem?_eq_some_iff.mp h
  exact ⟨hc, hi, a, b, c, by rw [← h, List.set_getElem_self]⟩
theorem Dr.step (h : Dr μ i m) {a b c : Int} : Dr μ i (m.set i (.lst [.int a, .int b, .int c])) := by
  obtain ⟨a', b', c', rfl⟩ := h.ex
  exact ⟨h.cln0, h.lt, a, b, c, List.set_set ..⟩
theorem Dr.trans (h : Dr μ i m) (h' : Dr m i m') : Dr μ i m' := by
  obtain ⟨a', b', c', rfl⟩ := h'.ex
  exact h.step
theorem Dr.take (h : Dr μ i m) : m.take μ.length = m := List.take_of_length_le (by rw [h.len]; exact Nat.le_refl _)
theorem Dr.self (h : Dr μ i m) : Dr m i m := .of h.cln h.well
theorem Dr.at_ (h : Dr μ i m) {j : Nat} (n : j ≠ i) : m[j]? = μ[j]? := by
  obtain ⟨a, b, c, rfl⟩ := h.ex
  rw [List.getElem?_set_ne (Ne.symm n)]
/-- a new well behind all cells -/
theorem Dr.new {a b c : Int} (hc : Cln μ) : Dr (μ ++ [.lst [.int a, .int b, .int c]]) μ.length (μ ++ [.lst [.int a, .int b, .int c]]) := .of (hc.snoc rfl) ⟨a, b, c, List.getElem?_concat_length⟩
/-- what a def hands back that drew, only -/
theorem Dr.fr {d : D} {Q : D → List M → Prop} (h : Dr μ i m) (hd : clean 0 d = true) (q : Q d m) : FR μ.length m d Q := ⟨hd, h.cln, by rw [h.take]; exact q⟩
theorem draw_k {n : Int} {Q : D → List M → Prop} {X : XP} (h : Dr μ i m) (hn : 0 < n) (hn2 : n < 9223372036854775808) (k : ∀ r m', 0 ≤ r → r < n → Dr μ i m' → Q (.int r) m') : WO (G_law_draw [.cel i, .int n] m) Q X ⟨⟩ := by
  refine (draw_ok h.cln h.well hn hn2).use ?_
  rintro x m' ⟨r, a, b, c, rfl, h0, h1, rfl⟩
  exact k r _ h0 h1 h.step
/-- of a def that drew nothing -/
theorem fr_same {d : D} {Q : D → List M → Prop} (hc : Cln μ) (hd : clean 0 d = true) (q : Q d μ) : FR μ.length μ d Q := ⟨hd, hc, by rw [List.take_length]; exact q⟩
end
/-! plain parts of data -/
theorem t_isN {m : List M} {i : Int} : bIsU (.inl "int") m [.int i, .ty "int"] = some (.bl true) := by with_unfolding_all rfl
theorem t_isB {m : List M} {i : Int} : bIsU (.inl "bool") m [.int i, .ty "bool"] = some (.bl false) := by with_unfolding_all rfl
theorem t_isS {m : List M} {x : Str} : bIsU (.inl "str") m [.str x, .ty "str"] = some (.bl true) := by with_unfolding_all rfl
end PG
namespace PG
open PySem PySem.Spec PyProof.Rows L2 DL
local macro_rules | `(tactic| trivial) => `(tactic| simp (config := { dsimp := false }) only [*, eq_self, DL.w_ok, DL.w_ex, DL.w_bind, DL.w_bindS, DL.o_some, DL.w_dC, DL.w_var, DL.w_op, DL.a_nil, DL.a_cons, DL.w_tup, DL.w_lst, DL.w_blt, DL.w_call, DL.w_callN, DL.w_or, DL.w_and, DL.w_not, DL.w_neg, DL.w_if, DL.w_chain, DL.t_tru, DL.t_tst, DL.t_and, DL.t_or, DL.t_not, DL.p_no, DL.p_some, DL.w_slc, DL.w_m1, DL.w_m0, DL.w_fld, DL.s_nil, DL.s_brk, DL.s_cnt, DL.s_retN, DL.s_raise, DL.s_seq, DL.s_ret, DL.s_exp, DL.s_if, DL.s_set, DL.s_new, DL.s_cel, DL.s_retC, DL.s_par, DL.s_asg, DL.e_add, DL.e_sub, DL.e_mulR, DL.e_mulL, DL.e_modS, DL.e_divS, DL.e_pow, DL.e_lt, DL.e_le, DL.e_gt, DL.e_ge, DL.e_is, DL.e_isN, DL.e_eqI, DL.e_neI, DL.e_eqS, DL.e_neS, DL.h_bl, DL.h_int, DL.h_non, DL.b_bl, DL.i_int, DL.s_str, DL.l_lst, DL.q_lst, DL.q_tup, DL.c_lst, DL.c_seq, DL.c_lis, DL.x_cel, DL.x_lst, DL.x_tup, DL.at_nn, DL.ix_in, DL.p_cel, DL.e_mulIf, DL.e_mulM, DL.t_len, DL.t_intB, DL.start, DL.s_setIx, DL.s_for, DL.i_rng, DL.i_rng2, DL.w_lc, DL.r_one, DL.s_app, DL.g_cel, DL.w_dct0, DL.w_meth, DL.isC_obj, DL.w_make, DL.w_pick, DL.pick_cons, DL.pick_nil, DL.w_own, DL.w_ne, DL.w_obS, DL.cls_obj, DL.fld_obj, DL.w_fmt, DL.w_fs, DL.w_fsNil, DL.w_fsCons, DL.w_isT, DL.w_revA, DL.s_try, DL.s_raiseI, DL.s_tryP, DL.s_endX, DL.w_isXT, DL.i_any, DL.ia_tup, DL.ia_str, DL.ia_lst, DL.ia_scr, DL.ia_cel, DL.gl_glo, DL.w_callA, DL.s_tryN, DL.s_never, DL.s_fld, DL.w_listN, DL.g_seq, DL.g_cons, DL.g_nil, DL.g_nm, DL.t_yes, DL.wipe_cons, DL.wipe_nil, DL.nn_non, DL.nn_int, DL.nn_str, DL.nn_bl, DL.nn_tup, DL.nn_lst, DL.w_fmR, DL.w_owns, DL.w_nes, DL.w_obSs, DL.w_meths, List.map_cons, List.map_nil, List.length_cons, List.length_nil, List.cons_append, List.nil_append, List.append_nil, List.drop_zero, List.drop_nil, List.drop_succ_cons, List.getElem?_cons_zero, List.getElem?_cons_succ, List.set_cons_zero, List.set_cons_succ, List.replicate_succ, List.replicate_zero, Option.join_some, Option.map_some, if_true, if_false, Bool.not_true, Bool.not_false, true_and, and_true, Nat.reduceAdd, Nat.reduceSub, Nat.reduceLeDiff, decide_true, decide_false, Bool.false_eq_true, Option.bind_some, Int.reduceToNat, List.getElem?_set_self, Int.reduceLT, Int.reduceLE, Int.reduceNeg, Int.reduceSub, Int.reduceAdd, Int.reduceMul, Int.reducePow, Nat.reduceLT, Int.reduceEq, ite_self, PG.dfl_is_count, PG.dfl_is_end, PG.dfl_is_whole])
/-! numbers, cells -/
/-- a datum of a kind that isinstance tells -/
def kn : D → Bool
  | .non => true | .bl _ => true | .int _ => true | .str _ => true | .tup _ => true | .lst _ => true | .dct _ _ => true
  | .obj _ _ _ => true
  | .txt => true
  | _ => false
def whole : D → Bool
  | .int _ => true
  | _ => false
def cnt : D → Bool
  | .int i => decide (1 ≤ i)
  | _ => false
section
variable {μ : List M} {d e : D} {i j : Int} {b : Bool} {x : Str} {l : List D}
def isIB : D → Bool
  | .int _ => true | .bl _ => true
  | _ => false
def isBo : D → Bool
  | .bl _ => true
  | _ => false
def isTu : D → Bool
  | .tup _ => true
  | _ => false
def isSt : D → Bool
  | .str _ => true
  | .txt => true
  | _ => false
def isLs : D → Bool
  | .lst _ => true
  | _ => false
theorem isU_int (h : kn d = true) : bIsU (.inl "int") μ [d, .ty "int"] = some (.bl (isIB d)) := by
  cases d <;> first | (with_unfolding_all rfl) | cases h
theorem isU_bool (h : kn d = true) : bIsU (.inl "bool") μ [d, .ty "bool"] = some (.bl (isBo d)) := by
  cases d <;> first | (with_unfolding_all rfl) | cases h
theorem isU_tup (h : kn d = true) : bIsU (.inl "tuple") μ [d, .ty "tuple"] = some (.bl (isTu d)) := by
  cases d <;> first | (with_unfolding_all rfl) | cases h
local macro_rules | `(tactic| trivial) => `(tactic| simp (config := { dsimp := false }) only [*, eq_self, DL.w_ok, DL.w_ex, DL.w_bind, DL.w_bindS, DL.o_some, DL.w_dC, DL.w_var, DL.w_op, DL.a_nil, DL.a_cons, DL.w_tup, DL.w_lst, DL.w_blt, DL.w_call, DL.w_callN, DL.w_or, DL.w_and, DL.w_not, DL.w_neg, DL.w_if, DL.w_chain, DL.t_tru, DL.t_tst, DL.t_and, DL.t_or, DL.t_not, DL.p_no, DL.p_some, DL.w_slc, DL.w_m1, DL.w_m0, DL.w_fld, DL.s_nil, DL.s_brk, DL.s_cnt, DL.s_retN, DL.s_raise, DL.s_seq, DL.s_ret, DL.s_exp, DL.s_if, DL.s_set, DL.s_new, DL.s_cel, DL.s_retC, DL.s_par, DL.s_asg, DL.e_add, DL.e_sub, DL.e_mulR, DL.e_mulL, DL.e_modS, DL.e_divS, DL.e_pow, DL.e_lt, DL.e_le, DL.e_gt, DL.e_ge, DL.e_is, DL.e_isN, DL.e_eqI, DL.e_neI, DL.e_eqS, DL.e_neS, DL.h_bl, DL.h_int, DL.h_non, DL.b_bl, DL.i_int, DL.s_str, DL.l_lst, DL.q_lst, DL.q_tup, DL.c_lst, DL.c_seq, DL.c_lis, DL.x_cel, DL.x_lst, DL.x_tup, DL.at_nn, DL.ix_in, DL.p_cel, DL.e_mulIf, DL.e_mulM, DL.t_len, DL.t_intB, DL.start, DL.s_setIx, DL.s_for, DL.i_rng, DL.i_rng2, DL.w_lc, DL.r_one, DL.s_app, DL.g_cel, DL.w_dct0, DL.w_meth, DL.isC_obj, DL.w_make, DL.w_pick, DL.pick_cons, DL.pick_nil, DL.w_own, DL.w_ne, DL.w_obS, DL.cls_obj, DL.fld_obj, DL.w_fmt, DL.w_fs, DL.w_fsNil, DL.w_fsCons, DL.w_isT, DL.w_revA, DL.s_try, DL.s_raiseI, DL.s_tryP, DL.s_endX, DL.w_isXT, DL.i_any, DL.ia_tup, DL.ia_str, DL.ia_lst, DL.ia_scr, DL.ia_cel, DL.gl_glo, DL.w_callA, DL.s_tryN, DL.s_never, DL.s_fld, DL.w_listN, DL.g_seq, DL.g_cons, DL.g_nil, DL.g_nm, DL.t_yes, DL.wipe_cons, DL.wipe_nil, DL.nn_non, DL.nn_int, DL.nn_str, DL.nn_bl, DL.nn_tup, DL.nn_lst, DL.w_fmR, DL.w_owns, DL.w_nes, DL.w_obSs, DL.w_meths, List.map_cons, List.map_nil, List.length_cons, List.length_nil, List.cons_append, List.nil_append, List.append_nil, List.drop_zero, List.drop_nil, List.drop_succ_cons, List.getElem?_cons_zero, List.getElem?_cons_succ, List.set_cons_zero, List.set_cons_succ, List.replicate_succ, List.replicate_zero, Option.join_some, Option.map_some, if_true, if_false, Bool.not_true, Bool.not_false, true_and, and_true, Nat.reduceAdd, Nat.reduceSub, Nat.reduceLeDiff, decide_true, decide_false, Bool.false_eq_true, Option.bind_some, Int.reduceToNat, List.getElem?_set_self, Int.reduceLT, Int.reduceLE, Int.reduceNeg, Int.reduceSub, Int.reduceAdd, Int.reduceMul, Int.reducePow, Nat.reduceLT, Int.reduceEq, ite_self, isIB, isBo, isTu, isSt, isLs, whole, cnt, isNon, PG.dfl_is_count, PG.dfl_is_end, PG.dfl_is_whole])
theorem x_whole (hc : Cln μ) (h : kn d = true) : G_is_whole [d] μ = .ok (.bl (whole d)) μ := by
  apply eq_ok
  unfold G_is_whole
  refine wo_fn rfl ?_
  unfold D_is_whole
  have e1 := isU_int (μ := μ) h
  have e2 := isU_bool (μ := μ) h
  cases d <;> first | (exact absurd h Bool.false_ne_true) | (trivial; exact fr_same hc rfl ⟨rfl, rfl⟩)
theorem x_count (hc : Cln μ) (h : kn d = true) : G_is_count [d] μ = .ok (.bl (cnt d)) μ := by
  apply eq_ok
  unfold G_is_count
  refine wo_fn rfl ?_
  unfold D_is_count
  have e1 := x_whole hc h
  cases d <;> first | (exact absurd h Bool.false_ne_true) | (trivial; exact fr_same hc rfl ⟨rfl, rfl⟩)
def isEnd (f : Int) : D → Bool
  | .non => true
  | .int i => decide (1 ≤ i) && decide (f ≤ i)
  | _ => false
theorem x_end (hc : Cln μ) (h : kn d = true) : G_is_end [.int i, d] μ = .ok (.bl (isEnd i d)) μ := by
  apply eq_ok
  unfold G_is_end
  refine wo_fn rfl ?_
  unfold D_is_end
  have e1 := x_count hc h
  cases d with
  | int j =>
    trivial
    by_cases h1 : 1 ≤ j
    · trivial
      exact fr_same hc rfl ⟨by unfold isEnd; simp [h1], rfl⟩
    · trivial
      exact fr_same hc rfl ⟨by unfold isEnd; simp [h1], rfl⟩
  | _ => first | (exact absurd h Bool.false_ne_true) | (trivial; exact fr_same hc rfl ⟨rfl, rfl⟩)
end
end PG
namespace PG
open PySem PySem.Spec PyProof.Rows L2 DL
local macro_rules | `(tactic| trivial) => `(tactic| simp (config := { dsimp := false }) only [*, eq_self, DL.w_ok, DL.w_ex, DL.w_bind, DL.w_bindS, DL.o_some, DL.w_dC, DL.w_var, DL.w_op, DL.a_nil, DL.a_cons, DL.w_tup, DL.w_lst, DL.w_blt, DL.w_call, DL.w_callN, DL.w_or, DL.w_and, DL.w_not, DL.w_neg, DL.w_if, DL.w_chain, DL.t_tru, DL.t_tst, DL.t_and, DL.t_or, DL.t_not, DL.p_no, DL.p_some, DL.w_slc, DL.w_m1, DL.w_m0, DL.w_fld, DL.s_nil, DL.s_brk, DL.s_cnt, DL.s_retN, DL.s_raise, DL.s_seq, DL.s_ret, DL.s_exp, DL.s_if, DL.s_set, DL.s_new, DL.s_cel, DL.s_retC, DL.s_par, DL.s_asg, DL.e_add, DL.e_sub, DL.e_mulR, DL.e_mulL, DL.e_modS, DL.e_divS, DL.e_pow, DL.e_lt, DL.e_le, DL.e_gt, DL.e_ge, DL.e_is, DL.e_isN, DL.e_eqI, DL.e_neI, DL.e_eqS, DL.e_neS, DL.h_bl, DL.h_int, DL.h_non, DL.b_bl, DL.i_int, DL.s_str, DL.l_lst, DL.q_lst, DL.q_tup, DL.c_lst, DL.c_seq, DL.c_lis, DL.x_cel, DL.x_lst, DL.x_tup, DL.at_nn, DL.ix_in, DL.p_cel, DL.e_mulIf, DL.e_mulM, DL.t_len, DL.t_intB, DL.start, DL.s_setIx, DL.s_for, DL.i_rng, DL.i_rng2, DL.w_lc, DL.r_one, DL.s_app, DL.g_cel, DL.w_dct0, DL.w_meth, DL.isC_obj, DL.w_make, DL.w_pick, DL.pick_cons, DL.pick_nil, DL.w_own, DL.w_ne, DL.w_obS, DL.cls_obj, DL.fld_obj, DL.w_fmt, DL.w_fs, DL.w_fsNil, DL.w_fsCons, DL.w_isT, DL.w_revA, DL.s_try, DL.s_raiseI, DL.s_tryP, DL.s_endX, DL.w_isXT, DL.i_any, DL.ia_tup, DL.ia_str, DL.ia_lst, DL.ia_scr, DL.ia_cel, DL.gl_glo, DL.w_callA, DL.s_tryN, DL.s_never, DL.s_fld, DL.w_listN, DL.g_seq, DL.g_cons, DL.g_nil, DL.g_nm, DL.t_yes, DL.wipe_cons, DL.wipe_nil, DL.nn_non, DL.nn_int, DL.nn_str, DL.nn_bl, DL.nn_tup, DL.nn_lst, DL.w_fmR, DL.w_owns, DL.w_nes, DL.w_obSs, DL.w_meths, List.map_cons, List.map_nil, List.length_cons, List.length_nil, List.cons_append, List.nil_append, List.append_nil, List.drop_zero, List.drop_nil, List.drop_succ_cons, List.getElem?_cons_zero, List.getElem?_cons_succ, List.set_cons_zero, List.set_cons_succ, List.replicate_succ, List.replicate_zero, Option.join_some, Option.map_some, if_true, if_false, Bool.not_true, Bool.not_false, true_and, and_true, Nat.reduceAdd, Nat.reduceSub, Nat.reduceLeDiff, decide_true, decide_false, Bool.false_eq_true, Option.bind_some, Int.reduceToNat, List.getElem?_set_self, Int.reduceLT, Int.reduceLE, Int.reduceNeg, Int.reduceSub, Int.reduceAdd, Int.reduceMul, Int.reducePow, Nat.reduceLT, Int.reduceEq, ite_self, isIB, isBo, isTu, isSt, isLs, isNon, PG.dfl_Block_init__, PG.dfl_checked_cell, PG.dfl_is_cell, PG.dfl_is_count, PG.dfl_is_end, PG.dfl_is_whole])
section
variable {μ : List M} {d e : D} {i j : Int} {b : Bool} {x : Str} {l : List D}
/-! cells -/
def cellD : D → Bool
  | .tup l => decide (l.length = 2) && l.all cnt
  | _ => false
/-- the items of a tuple of two are of kinds that isinstance tells -/
def knC : D → Bool
  | .tup l => l.all kn
  | d => kn d
theorem knC_kn (h : knC d = true) : kn d = true := by cases d <;> first | rfl | exact h
theorem bools_map {f : D → Bool} : ∀ l : List D, bools (l.map fun x => .bl (f x)) = some (l.map f)
  | [] => rfl
  | x :: l => by rw [List.map_cons]; show (bools (l.map fun x => D.bl (f x))).map (f x :: ·) = _; rw [bools_map l]; rfl
theorem all_map {m : List M} {f : D → Bool} {l : List D} : bAll m [.lst (l.map fun x => .bl (f x))] = some (.bl (l.all f)) := by
  show (match lstOf m (.lst (l.map fun x => D.bl (f x))) with | some l => (bools l).map fun bs => D.bl (List.all bs id) | none => none) = _
  rw [l_lst]
  show (bools (l.map fun x => D.bl (f x))).map _ = _
  rw [bools_map]
  show some (D.bl ((l.map f).all id)) = _
  rw [List.all_map]
  rfl
theorem x_cell (hc : Cln μ) (h : knC d = true) : G_is_cell [d] μ = .ok (.bl (cellD d)) μ := by
  apply eq_ok
  unfold G_is_cell
  refine wo_fn rfl ?_
  unfold D_is_cell
  have e1 := isU_tup (μ := μ) (knC_kn h)
  cases d with
  | tup l =>
    have e2 : bLen μ [.tup l] = some (.int l.length) := t_len q_tup
    have hk : ∀ x ∈ l, kn x = true := List.all_eq_true.mp h
    trivial
    by_cases hl : (l.length : Int) = 2
    · have hl' : l.length = 2 := by omega
      have e3 := lc_map (m := μ) (g := fun _ => True) (tg := gNm 1) (el := dCall 1 G_is_count [] (aCons (dVar 1) aNil)) (env0 := [some (.tup l), none]) (fun x => .bl (cnt x)) ⟨⟩ l (fun x hx => ⟨_, rfl, by
        have e4 := x_count hc (hk x hx)
        apply eq_ok
        trivial⟩) (by omega)
      have e5 := all_map (m := μ) (f := cnt) (l := l)
      clear hl'
      trivial
      refine fr_same hc rfl ?_
      exact ⟨by unfold cellD; simp [show l.length = 2 by omega], rfl⟩
    · have hl' : l.length ≠ 2 := fun e => hl (by rw [e]; rfl)
      trivial
      refine fr_same hc rfl ?_
      exact ⟨by unfold cellD; simp [hl'], rfl⟩
  | _ => first | (exact absurd h Bool.false_ne_true) | (trivial; exact fr_same hc rfl ⟨rfl, rfl⟩)
theorem x_checked (hc : Cln μ) (h : knC d = true) : G_checked_cell [d] μ = if cellD d = true then .ok .non μ else .ex "NoCell" [] [] μ := by
  have e1 := x_cell hc h
  cases hd : cellD d with
  | true =>
    rw [if_pos rfl]
    apply eq_ok
    unfold G_checked_cell
    refine wo_fn rfl ?_
    unfold D_checked_cell
    trivial
    exact fr_same hc rfl ⟨rfl, rfl⟩
  | false =>
    rw [if_neg Bool.false_ne_true]
    apply eq_ex
    unfold G_checked_cell
    refine wo_fn rfl ?_
    unfold D_checked_cell
    trivial
    exact ⟨rfl, List.take_length⟩
/-! blocks -/
def opt : Option Int → D
  | none => .non
  | some i => .int i
structure Blk where
  t : Int
  l : Int
  b : Option Int
  r : Option Int
abbrev bNs : List Str := ["top", "left", "bottom", "right"]
def blkD (b : Blk) : D := .obj "Block" bNs [.int b.t, .int b.l, opt b.b, opt b.r]
def leO (i : Int) : Option Int → Bool
  | none => true
  | some j => decide (i ≤ j)
structure Blk.Ok (b : Blk) : Prop where
  ot : 1 ≤ b.t
  ol : 1 ≤ b.l
  ob : leO b.t b.b = true
  or_ : leO b.l b.r = true
def blkOk (t l b r : D) : Bool := cnt t && (cnt l && ((match t with | .int i => isEnd i b | _ => false) && match l with | .int i => isEnd i r | _ => false))
theorem kn_end {t : Int} (h : isEnd t d = true) : kn d = true ∧ clean 0 d = true := by
  cases d <;> first | exact ⟨rfl, rfl⟩ | cases h
theorem cnt_int (h : cnt d = true) : ∃ i : Int, d = .int i ∧ 1 ≤ i := by
  cases d <;> first | exact ⟨_, rfl, of_decide_eq_true h⟩ | cases h
theorem x_init {t l b r : D} (hc : Cln μ) (ht : kn t = true) (hl : kn l = true) (hb : kn b = true) (hr : kn r = true) :
    makeD "Block" 5 G_Block_init__ [t, l, b, r] μ = if blkOk t l b r = true then .ok (.obj "Block" bNs [t, l, b, r]) μ else .ex "NoBlock" [] [] μ := by
  have hc2 : Cln (μ ++ [M.obj "Block" [] []]) := hc.snoc rfl
  have hlen : μ.length < (μ ++ [M.obj "Block" [] []]).length := by rw [List.length_append]; exact Nat.lt_succ_self _
  have c1 := x_count hc2 ht
  have c2 := x_count hc2 hl
  have key : (blkOk t l b r = true → ∃ m2, G_Block_init__ [.cel μ.length, t, l, b, r] (μ ++ [M.obj "Block" [] []]) = .ok .non m2 ∧ m2 = μ ++ [M.obj "Block" bNs [t, l, b, r]]) ∧
      (blkOk t l b r = false → G_Block_init__ [.cel μ.length, t, l, b, r] (μ ++ [M.obj "Block" [] []]) = .ex "NoBlock" [] [] (μ ++ [M.obj "Block" [] []])) := by
    constructor
    · intro hok
      unfold blkOk at hok
      have h1 := Bool.and_eq_true_iff.mp hok
      have h2 := Bool.and_eq_true_iff.mp h1.2
      have h3 := Bool.and_eq_true_iff.mp h2.2
      obtain ⟨ti, rfl, t1⟩ := cnt_int h1.1
      obtain ⟨li, rfl, l1⟩ := cnt_int h2.1
      have hb2 : isEnd ti b = true := h3.1
      have hr2 : isEnd li r = true := h3.2
      refine ⟨_, ?_, rfl⟩
      apply eq_ok
      unfold G_Block_init__
      refine wo_fn rfl ?_
      unfold D_Block_init__
      have c3 := x_end (i := ti) hc2 hb
      have c4 := x_end (i := li) hc2 hr
      rw [hb2] at c3
      rw [hr2] at c4
      have k1 := h1.1
      have k2 := h2.1
      rw [k1] at c1
      rw [k2] at c2
      have f1 : celO (μ ++ [M.obj "Block" [] []]) (.cel μ.length) = some (μ.length, ("Block" : Str), ([] : List Str), ([] : List D)) := co_cel List.getElem?_concat_length
      have st : ∀ {a b : M}, (μ ++ [a]).set μ.length b = μ ++ [b] := fun {a b} => by rw [List.set_append_right _ _ (Nat.le_refl _), Nat.sub_self]; rfl
      have f2 : ∀ {ns l}, celO (μ ++ [M.obj "Block" ns l]) (.cel μ.length) = some (μ.length, ("Block" : Str), ns, l) := co_cel List.getElem?_concat_length
      have p1 : putD "top" (.int ti) [] [] = ((["top"] : List Str), ([D.int ti] : List D)) := rfl
      have p2 : putD "left" (.int li) ["top"] [.int ti] = ((["top", "left"] : List Str), ([D.int ti, D.int li] : List D)) := by with_unfolding_all rfl
      have p3 : putD "bottom" b ["top", "left"] [.int ti, .int li] = ((["top", "left", "bottom"] : List Str), ([D.int ti, D.int li, b] : List D)) := by with_unfolding_all rfl
      have p4 : putD "right" r ["top", "left", "bottom"] [.int ti, .int li, b] = ((["top", "left", "bottom", "right"] : List Str), ([D.int ti, D.int li, b, r] : List D)) := by with_unfolding_all rfl
      trivial
      have hcl : cleanM 0 (M.obj "Block" ["top", "left", "bottom", "right"] [.int ti, .int li, b, r]) = true := by
        show (true && (true && (clean 0 b && (clean 0 r && true)))) = true
        rw [(kn_end hb2).2, (kn_end hr2).2]; rfl
      refine ⟨rfl, hc.snoc hcl, rfl, ?_⟩
      rw [List.take_of_length_le (by rw [List.length_append, List.length_append]; exact Nat.le_refl _)]
    · intro hok
      apply eq_ex
      unfold G_Block_init__
      refine wo_fn rfl ?_
      unfold D_Block_init__
      have fin : FR (μ ++ [M.obj "Block" [] []]).length (μ ++ [M.obj "Block" [] []]) .non (fun _ _ => False) ∨ True := .inr ⟨⟩
      have ex : cleans 0 ([] : List D) = true ∧ Cln (μ ++ [M.obj "Block" [] []]) ∧ ("NoBlock" : Str) = "NoBlock" ∧ ([] : List Str) = [] ∧ ([] : List D) = [] ∧ (μ ++ [M.obj "Block" [] []]).take (μ ++ [M.obj "Block" [] []]).length = μ ++ [M.obj "Block" [] []] :=
        ⟨rfl, hc2, rfl, rfl, rfl, List.take_length⟩
      cases k1 : cnt t with
      | false =>
        rw [k1] at c1
        trivial <;> exact ex
      | true =>
        rw [k1] at c1
        cases k2 : cnt l with
        | false =>
          rw [k2] at c2
          trivial <;> exact ex
        | true =>
          rw [k2] at c2
          obtain ⟨ti, rfl, t1⟩ := cnt_int k1
          obtain ⟨li, rfl, l1⟩ := cnt_int k2
          have c3 := x_end (i := ti) hc2 hb
          have c4 := x_end (i := li) hc2 hr
          cases k3 : isEnd ti b with
          | false =>
            rw [k3] at c3
            trivial <;> exact ex
          | true =>
            rw [k3] at c3
            cases k4 : isEnd li r with
            | false =>
              rw [k4] at c4
              trivial <;> exact ex
            | true =>
              exfalso
              unfold blkOk at hok
              rw [k1, k2] at hok
              have hok : (true && (true && (isEnd ti b && isEnd li r))) = false := hok
              rw [k3, k4] at hok
              cases hok
  cases hok : blkOk t l b r with
  | true =>
    obtain ⟨m2, e1, rfl⟩ := key.1 hok
    have hcl : cleans 0 [t, l, b, r] = true := by
      unfold blkOk at hok
      have h1 := Bool.and_eq_true_iff.mp hok
      have h2 := Bool.and_eq_true_iff.mp h1.2
      have h3 := Bool.and_eq_true_iff.mp h2.2
      obtain ⟨ti, rfl, t1⟩ := cnt_int h1.1
      obtain ⟨li, rfl, l1⟩ := cnt_int h2.1
      show (true && (true && (clean 0 b && (clean 0 r && true)))) = true
      rw [(kn_end (t := ti) h3.1).2, (kn_end (t := li) h3.2).2]; rfl
    rw [if_pos rfl]
    exact makeD_ok hc rfl hcl e1
  | false =>
    rw [if_neg Bool.false_ne_true]
    exact makeD_ex hc rfl (key.2 hok)
end
end PG
namespace PG
open PySem PySem.Spec PyProof.Rows L2 DL
local macro_rules | `(tactic| trivial) => `(tactic| simp (config := { dsimp := false }) only [*, eq_self, DL.w_ok, DL.w_ex, DL.w_bind, DL.w_bindS, DL.o_some, DL.w_dC, DL.w_var, DL.w_op, DL.a_nil, DL.a_cons, DL.w_tup, DL.w_lst, DL.w_blt, DL.w_call, DL.w_callN, DL.w_or, DL.w_and, DL.w_not, DL.w_neg, DL.w_if, DL.w_chain, DL.t_tru, DL.t_tst, DL.t_and, DL.t_or, DL.t_not, DL.p_no, DL.p_some, DL.w_slc, DL.w_m1, DL.w_m0, DL.w_fld, DL.s_nil, DL.s_brk, DL.s_cnt, DL.s_retN, DL.s_raise, DL.s_seq, DL.s_ret, DL.s_exp, DL.s_if, DL.s_set, DL.s_new, DL.s_cel, DL.s_retC, DL.s_par, DL.s_asg, DL.e_add, DL.e_sub, DL.e_mulR, DL.e_mulL, DL.e_modS, DL.e_divS, DL.e_pow, DL.e_lt, DL.e_le, DL.e_gt, DL.e_ge, DL.e_is, DL.e_isN, DL.e_eqI, DL.e_neI, DL.e_eqS, DL.e_neS, DL.h_bl, DL.h_int, DL.h_non, DL.b_bl, DL.i_int, DL.s_str, DL.l_lst, DL.q_lst, DL.q_tup, DL.c_lst, DL.c_seq, DL.c_lis, DL.x_cel, DL.x_lst, DL.x_tup, DL.at_nn, DL.ix_in, DL.p_cel, DL.e_mulIf, DL.e_mulM, DL.t_len, DL.t_intB, DL.start, DL.s_setIx, DL.s_for, DL.i_rng, DL.i_rng2, DL.w_lc, DL.r_one, DL.s_app, DL.g_cel, DL.w_dct0, DL.w_meth, DL.isC_obj, DL.w_make, DL.w_pick, DL.pick_cons, DL.pick_nil, DL.w_own, DL.w_ne, DL.w_obS, DL.cls_obj, DL.fld_obj, DL.w_fmt, DL.w_fs, DL.w_fsNil, DL.w_fsCons, DL.w_isT, DL.w_revA, DL.s_try, DL.s_raiseI, DL.s_tryP, DL.s_endX, DL.w_isXT, DL.i_any, DL.ia_tup, DL.ia_str, DL.ia_lst, DL.ia_scr, DL.ia_cel, DL.gl_glo, DL.w_callA, DL.s_tryN, DL.s_never, DL.s_fld, DL.w_listN, DL.g_seq, DL.g_cons, DL.g_nil, DL.g_nm, DL.t_yes, DL.wipe_cons, DL.wipe_nil, DL.nn_non, DL.nn_int, DL.nn_str, DL.nn_bl, DL.nn_tup, DL.nn_lst, DL.w_fmR, DL.w_owns, DL.w_nes, DL.w_obSs, DL.w_meths, List.map_cons, List.map_nil, List.length_cons, List.length_nil, List.cons_append, List.nil_append, List.append_nil, List.drop_zero, List.drop_nil, List.drop_succ_cons, List.getElem?_cons_zero, List.getElem?_cons_succ, List.set_cons_zero, List.set_cons_succ, List.replicate_succ, List.replicate_zero, Option.join_some, Option.map_some, if_true, if_false, Bool.not_true, Bool.not_false, true_and, and_true, Nat.reduceAdd, Nat.reduceSub, Nat.reduceLeDiff, decide_true, decide_false, Bool.false_eq_true, Option.bind_some, Int.reduceToNat, List.getElem?_set_self, Int.reduceLT, Int.reduceLE, Int.reduceNeg, Int.reduceSub, Int.reduceAdd, Int.reduceMul, Int.reducePow, Nat.reduceLT, Int.reduceEq, ite_self, PG.dfl_is_count, PG.dfl_letters_of])
/-! column letters: plain numbers and lists of codes -/
def lets : Nat → List Nat
  | 0 => []
  | n + 1 => lets (n / 26) ++ [65 + n % 26]
decreasing_by exact Nat.lt_succ_of_le (Nat.div_le_self n 26)
theorem lets_zero : lets 0 = [] := by rw [lets]
theorem lets_succ (n : Nat) : lets (n + 1) = lets (n / 26) ++ [65 + n % 26] := by rw [lets]
def valL (l : List Nat) : Nat := l.foldl (fun a c => a * 26 + (c - 64)) 0
theorem val_snoc (l : List Nat) (c : Nat) : valL (l ++ [c]) = valL l * 26 + (c - 64) := by unfold valL; rw [List.foldl_append]; rfl
def LOk (l : List Nat) : Prop := ∀ c ∈ l, 65 ≤ c ∧ c ≤ 90
theorem val_lets (n : Nat) : valL (lets n) = n := by
  induction n using Nat.strongRecOn with
  | ind n ih =>
    cases n with
    | zero => rw [lets_zero]; rfl
    | succ n =>
      rw [lets_succ, val_snoc, ih _ (Nat.lt_succ_of_le (Nat.div_le_self n 26))]
      omega
theorem ok_lets (n : Nat) : LOk (lets n) := by
  induction n using Nat.strongRecOn with
  | ind n ih =>
    cases n with
    | zero => rw [lets_zero]; exact fun _ h => nomatch h
    | succ n =>
      rw [lets_succ]
      intro c hc
      rcases List.mem_append.mp hc with h | h
      · exact ih _ (Nat.lt_succ_of_le (Nat.div_le_self n 26)) c h
      · rw [List.mem_singleton.mp h]; omega
theorem snoc_ind {P : List Nat → Prop} (h0 : P []) (h1 : ∀ l c, P l → P (l ++ [c])) : ∀ l, P l := by
  have go : ∀ n l, l.length = n → P l := by
    intro n
    induction n with
    | zero => intro l e; rw [List.eq_nil_of_length_eq_zero e]; exact h0
    | succ n ih =>
      intro l e
      have hl : l ≠ [] := by intro z; rw [z] at e; cases e
      rw [← List.dropLast_concat_getLast hl]
      exact h1 _ _ (ih _ (by rw [List.length_dropLast, e]; rfl))
  exact fun l => go _ l rfl
theorem LOk.init {l : List Nat} {c : Nat} (h : LOk (l ++ [c])) : LOk l := fun x hx => h x (List.mem_append_left _ hx)
theorem LOk.last {l : List Nat} {c : Nat} (h : LOk (l ++ [c])) : 65 ≤ c ∧ c ≤ 90 := h c (List.mem_append_right _ List.mem_cons_self)
def mxL : Nat → Nat
  | 0 => 0
  | k + 1 => 26 * mxL k + 26
theorem val_mx : ∀ l, LOk l → ∀ k, (valL l ≤ mxL k ↔ l.length ≤ k) := by
  apply snoc_ind
  · intro _ k; exact ⟨fun _ => Nat.zero_le _, fun _ => Nat.zero_le _⟩
  · intro l c ih h k
    have hc := h.last
    rw [val_snoc, List.length_append, List.length_singleton]
    cases k with
    | zero => exact ⟨fun q => by have : mxL 0 = 0 := rfl; omega, fun q => by omega⟩
    | succ k =>
      have i := ih h.init k
      have : mxL (k + 1) = 26 * mxL k + 26 := rfl
      constructor
      · intro q
        have := i.mp (by omega)
        omega
      · intro q
        have := i.mpr (by omega)
        omega
theorem len_lets {n k : Nat} : (lets n).length ≤ k ↔ n ≤ mxL k := by
  have := val_mx (lets n) (ok_lets n) k
  rw [val_lets] at this
  exact this.symm
def mkS (l : List Nat) : Str := ⟨l.toArray⟩
abbrev ALPH : Str := "ABCDEFGHIJKLMNOPQRSTUVWXYZ"
theorem at26 : ∀ c : _root_.Fin 26, atI ALPH.cps.toList (c.val : Nat) = some (65 + c.val) := by decide +kernel
theorem mkS_cat (a b : List Nat) : mkS a ++ mkS b = mkS (a ++ b) := by
  show (⟨a.toArray ++ b.toArray⟩ : Str) = ⟨(a ++ b).toArray⟩
  rw [List.append_toArray]
theorem mkS_len (l : List Nat) : (mkS l).length = l.length := List.size_toArray ..
theorem letter_at {m : List M} {r : Int} (h : 0 ≤ r) (h' : r < 26) : opIx m (.str ALPH) (.int r) = some (.str (mkS [65 + r.toNat])) := by
  have e := at26 ⟨r.toNat, by omega⟩
  have e2 : ((r.toNat : Nat) : Int) = r := Int.toNat_of_nonneg h
  dsimp only at e
  rw [e2] at e
  show (if ALPH.length ≤ 100000 then DL.strAt ALPH r else none) = _
  rw [if_pos (by decide)]
  unfold DL.strAt
  rw [e]
  rfl
theorem lets_pos {n : Nat} (h : 0 < n) : lets n = lets ((n - 1) / 26) ++ [65 + (n - 1) % 26] := by
  obtain ⟨k, rfl⟩ : ∃ k, n = k + 1 := ⟨n - 1, by omega⟩
  rw [lets_succ]; rfl
theorem x_letters {μ : List M} {n : Nat} (hc : Cln μ) (hn : 1 ≤ n) (hl : (lets n).length ≤ 1000) : G_letters_of [.int (n : Int)] μ = .ok (.str (mkS (lets n))) μ := by
  apply eq_ok
  unfold G_letters_of
  refine wo_fn rfl ?_
  unfold D_letters_of
  have c1 := x_count (d := .int (n : Int)) hc rfl
  have h1 : cnt (.int (n : Int)) = true := decide_eq_true (by omega)
  rw [h1] at c1
  trivial
  refine s_while (fun k e m' => ∃ (l : List Nat) (r : Option D), e = [some (.int (k : Int)), some (.str (mkS l)), r] ∧ m' = μ ∧ lets k ++ l = lets n) ?_ n ⟨[], none, rfl, rfl, by rw [List.append_nil]⟩
  rintro k e m' ⟨l, r, rfl, rfl, hk⟩
  trivial
  by_cases hz : (0 : Int) < (k : Int)
  · have hb : bDivmod m' [.int ((k : Int) - 1), .int 26] = some (.tup [.int (((k : Int) - 1) / 26), .int (((k : Int) - 1) % 26)]) := rfl
    have hg : gSeq 2 (gsCons (gNm 0) (gsCons (gNm 2) gsNil)) (.tup [.int (((k : Int) - 1) / 26), .int (((k : Int) - 1) % 26)]) [some (.int (k : Int)), some (.str (mkS l)), r] m' = some [some (.int (((k : Int) - 1) / 26)), some (.str (mkS l)), some (.int (((k : Int) - 1) % 26))] := rfl
    have hx := @letter_at m' (((k : Int) - 1) % 26) (Int.emod_nonneg _ (by decide)) (Int.emod_lt_of_pos _ (by decide))
    have hk2 := lets_pos (n := k) (by omega)
    have hr : (((k : Int) - 1) % 26).toNat = (k - 1) % 26 := by omega
    have hd : ((k : Int) - 1) / 26 = (((k - 1) / 26 : Nat) : Int) := by omega
    have hlen : (mkS [65 + (k - 1) % 26]).length + (mkS l).length ≤ 100000 := by
      have : (lets k ++ l).length ≤ 1000 := by rw [hk]; exact hl
      rw [mkS_len, mkS_len]
      rw [List.length_append] at this
      rw [hk2, List.length_append] at this
      have : [65 + (k - 1) % 26].length = 1 := rfl
      omega
    rw [hr] at hx
    have hadd : opAdd m' (.str (mkS [65 + (k - 1) % 26])) (.str (mkS l)) = some (.str (mkS ((65 + (k - 1) % 26) :: l))) := by
      rw [e_addS, if_pos hlen, mkS_cat]; rfl
    simp (config := { dsimp := false }) only [hz, decide_true, if_true, w_blt, a_cons, a_nil, w_var, w_op, w_dC, e_sub, s_seq, s_asg, s_set, hb, hg, o_some, hx, hadd, List.getElem?_cons_zero, List.getElem?_cons_succ, Option.join_some, List.set_cons_zero, List.set_cons_succ]
    refine ⟨(k - 1) / 26, by omega, (65 + (k - 1) % 26) :: l, some (.int (((k : Int) - 1) % 26)), by rw [hd]; rfl, rfl, ?_⟩
    rw [← hk, hk2, List.append_assoc]; rfl
  · have h0 : k = 0 := by omega
    subst h0
    trivial
    rw [lets_zero, List.nil_append] at hk
    subst hk
    exact ⟨rfl, hc, rfl, List.take_length⟩
end PG
namespace PG
open PySem PySem.Spec PyProof.Rows L2 DL
/-! blocks as they are made, their fields -/
section
variable {μ : List M} {d e : D} {i j : Int} {x : Str} {l : List D} {b c : Blk} {o : Option Int}
theorem kn_opt : kn (opt o) = true := by cases o <;> rfl
theorem isNon_opt : isNon (opt o) = o.isNone := by cases o <;> rfl
theorem clean_opt {n : Nat} : clean n (opt o) = true := by cases o <;> rfl
theorem clean_blk {n : Nat} : clean n (blkD b) = true := by
  show (true && (true && (clean n (opt b.b) && (clean n (opt b.r) && true)))) = true
  rw [clean_opt, clean_opt]; rfl
theorem isEnd_opt {f : Int} (hf : 1 ≤ f) : isEnd f (opt o) = leO f o := by
  cases o with
  | none => rfl
  | some i =>
    show (decide (1 ≤ i) && decide (f ≤ i)) = decide (f ≤ i)
    by_cases h : f ≤ i
    · rw [decide_eq_true h, decide_eq_true (show 1 ≤ i by omega)]; rfl
    · rw [decide_eq_false h, Bool.and_false]
theorem ok_iff : blkOk (.int b.t) (.int b.l) (opt b.b) (opt b.r) = true ↔ b.Ok := by
  unfold blkOk
  rw [Bool.and_eq_true, Bool.and_eq_true, Bool.and_eq_true]
  constructor
  · rintro ⟨h1, h2, h3, h4⟩
    have h1 : 1 ≤ b.t := of_decide_eq_true h1
    have h2 : 1 ≤ b.l := of_decide_eq_true h2
    exact ⟨h1, h2, (isEnd_opt h1).symm.trans h3, (isEnd_opt h2).symm.trans h4⟩
  · intro h
    exact ⟨decide_eq_true h.ot, decide_eq_true h.ol, (isEnd_opt h.ot).trans h.ob, (isEnd_opt h.ol).trans h.or_⟩
theorem x_make (hc : Cln μ) (h : b.Ok) : makeD "Block" 5 G_Block_init__ [.int b.t, .int b.l, opt b.b, opt b.r] μ = .ok (blkD b) μ := by
  rw [x_init hc rfl rfl kn_opt kn_opt, if_pos (ok_iff.mpr h)]
  rfl
theorem c_blk : clsAt μ (blkD b) = some ("Block" : Str) := rfl
theorem f_top : fldAt μ "top" (blkD b) = some (.int b.t) := by with_unfolding_all rfl
theorem f_left : fldAt μ "left" (blkD b) = some (.int b.l) := by with_unfolding_all rfl
theorem f_bottom : fldAt μ "bottom" (blkD b) = some (opt b.b) := by with_unfolding_all rfl
theorem f_right : fldAt μ "right" (blkD b) = some (opt b.r) := by with_unfolding_all rfl
theorem is_has : isC "Block" "has" μ (blkD b) = True := eq_true ⟨rfl, by with_unfolding_all rfl⟩
theorem is_size : isC "Block" "size" μ (blkD b) = True := eq_true ⟨rfl, by with_unfolding_all rfl⟩
end
local macro_rules | `(tactic| trivial) => `(tactic| simp (config := { dsimp := false }) only [*, eq_self, DL.w_ok, DL.w_ex, DL.w_bind, DL.w_bindS, DL.o_some, DL.w_dC, DL.w_var, DL.w_op, DL.a_nil, DL.a_cons, DL.w_tup, DL.w_lst, DL.w_blt, DL.w_call, DL.w_callN, DL.w_or, DL.w_and, DL.w_not, DL.w_neg, DL.w_if, DL.w_chain, DL.t_tru, DL.t_tst, DL.t_and, DL.t_or, DL.t_not, DL.p_no, DL.p_some, DL.w_slc, DL.w_m1, DL.w_m0, DL.w_fld, DL.s_nil, DL.s_brk, DL.s_cnt, DL.s_retN, DL.s_raise, DL.s_seq, DL.s_ret, DL.s_exp, DL.s_if, DL.s_set, DL.s_new, DL.s_cel, DL.s_retC, DL.s_par, DL.s_asg, DL.e_add, DL.e_sub, DL.e_mulR, DL.e_mulL, DL.e_modS, DL.e_divS, DL.e_pow, DL.e_lt, DL.e_le, DL.e_gt, DL.e_ge, DL.e_is, DL.e_isN, DL.e_eqI, DL.e_neI, DL.e_eqS, DL.e_neS, DL.h_bl, DL.h_int, DL.h_non, DL.b_bl, DL.i_int, DL.s_str, DL.l_lst, DL.q_lst, DL.q_tup, DL.c_lst, DL.c_seq, DL.c_lis, DL.x_cel, DL.x_lst, DL.x_tup, DL.at_nn, DL.ix_in, DL.p_cel, DL.e_mulIf, DL.e_mulM, DL.t_len, DL.t_intB, DL.start, DL.s_setIx, DL.s_for, DL.i_rng, DL.i_rng2, DL.w_lc, DL.r_one, DL.s_app, DL.g_cel, DL.w_dct0, DL.w_meth, DL.isC_obj, DL.w_make, DL.w_pick, DL.pick_cons, DL.pick_nil, DL.w_own, DL.w_ne, DL.w_obS, DL.cls_obj, DL.fld_obj, DL.w_fmt, DL.w_fs, DL.w_fsNil, DL.w_fsCons, DL.w_isT, DL.w_revA, DL.s_try, DL.s_raiseI, DL.s_tryP, DL.s_endX, DL.w_isXT, DL.i_any, DL.ia_tup, DL.ia_str, DL.ia_lst, DL.ia_scr, DL.ia_cel, DL.gl_glo, DL.w_callA, DL.s_tryN, DL.s_never, DL.s_fld, DL.w_listN, DL.g_seq, DL.g_cons, DL.g_nil, DL.g_nm, DL.t_yes, DL.wipe_cons, DL.wipe_nil, DL.nn_non, DL.nn_int, DL.nn_str, DL.nn_bl, DL.nn_tup, DL.nn_lst, DL.w_fmR, DL.w_owns, DL.w_nes, DL.w_obSs, DL.w_meths, List.map_cons, List.map_nil, List.length_cons, List.length_nil, List.cons_append, List.nil_append, List.append_nil, List.drop_zero, List.drop_nil, List.drop_succ_cons, List.getElem?_cons_zero, List.getElem?_cons_succ, List.set_cons_zero, List.set_cons_succ, List.replicate_succ, List.replicate_zero, Option.join_some, Option.map_some, if_true, if_false, Bool.not_true, Bool.not_false, true_and, and_true, Nat.reduceAdd, Nat.reduceSub, Nat.reduceLeDiff, decide_true, decide_false, Bool.false_eq_true, Option.bind_some, Int.reduceToNat, List.getElem?_set_self, Int.reduceLT, Int.reduceLE, Int.reduceNeg, Int.reduceSub, Int.reduceAdd, Int.reduceMul, Int.reducePow, Nat.reduceLT, Int.reduceEq, ite_self, c_blk, f_top, f_left, f_bottom, f_right, is_has, is_size, isNon_opt, Option.isNone_none, Option.isNone_some, PG.dfl_Block_eq__, PG.dfl_Block_has, PG.dfl_Block_init__, PG.dfl_Block_size, PG.dfl_checked_cell, PG.dfl_is_count, PG.dfl_is_end])
section
variable {μ : List M} {d e : D} {i j : Int} {x : Str} {l : List D} {b c : Blk} {o : Option Int}
def sizeB (b : Blk) : Option Int := match b.b, b.r with
  | some q, some r => some ((q - b.t + 1) * (r - b.l + 1))
  | _, _ => none
/-- numbers far below 2 ^ 63 -/
structure Blk.Sm (b : Blk) : Prop where
  st : b.t ≤ 10000000000000
  sl : b.l ≤ 10000000000000
  sb : ∀ q, b.b = some q → q ≤ 10000000000000
  sr : ∀ q, b.r = some q → q ≤ 10000000000000
theorem x_size (hc : Cln μ) (hk : b.Ok) (hs : b.Sm) : G_Block_size [blkD b] μ = .ok (opt (sizeB b)) μ := by
  apply eq_ok
  unfold G_Block_size
  refine wo_fn rfl ?_
  unfold D_Block_size sizeB
  cases hb : b.b with
  | none =>
    have z : isNon (opt none) = true := rfl
    trivial
    refine fr_same hc rfl ?_
    exact ⟨rfl, rfl⟩
  | some q =>
    have z4 : isNon (opt (some q)) = false := rfl
    cases hr : b.r with
    | none =>
      have z : isNon (opt none) = true := rfl
      trivial
      refine fr_same hc rfl ?_
      exact ⟨rfl, rfl⟩
    | some r =>
      have z2 : isNon (opt (some r)) = false := rfl
      have z3 : opSub μ (opt (some r)) (.int b.l) = some (.int (r - b.l)) := rfl
      have z5 : opSub μ (opt (some q)) (.int b.t) = some (.int (q - b.t)) := rfl
      have h1 := hs.sb q hb
      have h2 := hk.ot
      have h3 := of_decide_eq_true (show decide (b.t ≤ q) = true from by have := hk.ob; rw [hb] at this; exact this)
      have z6 : opMul μ (.int (q - b.t + 1)) (.int (r - b.l + 1)) = some (.int ((q - b.t + 1) * (r - b.l + 1))) := e_mulL (by omega) (by omega)
      clear h1 h2 h3
      trivial
      refine fr_same hc rfl ?_
      exact ⟨rfl, rfl⟩
theorem isBlk : bIsU (.inr "Block") μ [blkD b, .glo "Block"] = some (.bl true) := by with_unfolding_all rfl
def four (b : Blk) : D := .tup [.int b.t, .int b.l, opt b.b, opt b.r]
theorem eqB_opt {o p : Option Int} : eqB (opt o) (opt p) = decide (o = p) := by
  cases o with
  | none => cases p <;> (unfold opt eqB; rfl)
  | some i => cases p with
    | none => unfold opt eqB; rfl
    | some j =>
      show (i == j) = _
      by_cases h : i = j
      · subst h; simp
      · simp [h]
instance : DecidableEq Blk := fun a b => by
  cases a; cases b
  exact decidable_of_iff' _ (Blk.mk.injEq ..).to_iff
theorem eqB_four : eqB (four b) (four c) = decide (b = c) := by
  show ((b.t == c.t) && ((b.l == c.l) && (eqB (opt b.b) (opt c.b) && (eqB (opt b.r) (opt c.r) && true)))) = _
  rw [eqB_opt, eqB_opt]
  obtain ⟨a1, a2, a3, a4⟩ := b
  obtain ⟨b1, b2, b3, b4⟩ := c
  simp only [Blk.mk.injEq]
  by_cases h1 : a1 = b1 <;> by_cases h2 : a2 = b2 <;> by_cases h3 : a3 = b3 <;> by_cases h4 : a4 = b4 <;> simp [h1, h2, h3, h4]
theorem plain_opt : plain (opt o) = true := by cases o <;> rfl
theorem dep_opt : dep (opt o) = 0 := by cases o <;> rfl
theorem plain_four : plain (four b) = true := by
  show (true && (true && (plain (opt b.b) && (plain (opt b.r) && true)))) = true
  rw [plain_opt, plain_opt]; rfl
theorem dep_four : dep (four b) = 1 := by
  show max 0 (max 0 (max (dep (opt b.b)) (max (dep (opt b.r)) 0))) + 1 = 1
  rw [dep_opt, dep_opt]; rfl
theorem e_four : opEq μ (four b) (four c) = some (.bl (decide (b = c))) := by
  show (if eqOk (four b) (four c) = true then some (D.bl (eqB (four b) (four c))) else none) = _
  rw [eqB_four, if_pos (by unfold eqOk; rw [plain_four, plain_four, dep_four, dep_four]; rfl)]
theorem clean_four {n : Nat} : clean n (four b) = true := by
  show (true && (true && (clean n (opt b.b) && (clean n (opt b.r) && true)))) = true
  rw [clean_opt, clean_opt]; rfl
theorem x_eq (hc : Cln μ) : G_Block_eq__ [blkD b, blkD c] μ = .ok (.bl (decide (b = c))) μ := by
  apply eq_ok
  unfold G_Block_eq__
  refine wo_fn rfl ?_
  unfold D_Block_eq__
  have e1 := isBlk (μ := μ) (b := c)
  have e2 : opEq μ (.tup [.int b.t, .int b.l, opt b.b, opt b.r]) (.tup [.int c.t, .int c.l, opt c.b, opt c.r]) = some (.bl (decide (b = c))) := e_four
  trivial
  refine fr_same hc rfl ?_
  exact ⟨rfl, rfl⟩
end
end PG
namespace PG
open PySem PySem.Spec PyProof.Rows L2 DL
local macro_rules | `(tactic| trivial) => `(tactic| simp (config := { dsimp := false }) only [*, eq_self, DL.w_ok, DL.w_ex, DL.w_bind, DL.w_bindS, DL.o_some, DL.w_dC, DL.w_var, DL.w_op, DL.a_nil, DL.a_cons, DL.w_tup, DL.w_lst, DL.w_blt, DL.w_call, DL.w_callN, DL.w_or, DL.w_and, DL.w_not, DL.w_neg, DL.w_if, DL.w_chain, DL.t_tru, DL.t_tst, DL.t_and, DL.t_or, DL.t_not, DL.p_no, DL.p_some, DL.w_slc, DL.w_m1, DL.w_m0, DL.w_fld, DL.s_nil, DL.s_brk, DL.s_cnt, DL.s_retN, DL.s_raise, DL.s_seq, DL.s_ret, DL.s_exp, DL.s_if, DL.s_set, DL.s_new, DL.s_cel, DL.s_retC, DL.s_par, DL.s_asg, DL.e_add, DL.e_sub, DL.e_mulR, DL.e_mulL, DL.e_modS, DL.e_divS, DL.e_pow, DL.e_lt, DL.e_le, DL.e_gt, DL.e_ge, DL.e_is, DL.e_isN, DL.e_eqI, DL.e_neI, DL.e_eqS, DL.e_neS, DL.h_bl, DL.h_int, DL.h_non, DL.b_bl, DL.i_int, DL.s_str, DL.l_lst, DL.q_lst, DL.q_tup, DL.c_lst, DL.c_seq, DL.c_lis, DL.x_cel, DL.x_lst, DL.x_tup, DL.at_nn, DL.ix_in, DL.p_cel, DL.e_mulIf, DL.e_mulM, DL.t_len, DL.t_intB, DL.start, DL.s_setIx, DL.s_for, DL.i_rng, DL.i_rng2, DL.w_lc, DL.r_one, DL.s_app, DL.g_cel, DL.w_dct0, DL.w_meth, DL.isC_obj, DL.w_make, DL.w_pick, DL.pick_cons, DL.pick_nil, DL.w_own, DL.w_ne, DL.w_obS, DL.cls_obj, DL.fld_obj, DL.w_fmt, DL.w_fs, DL.w_fsNil, DL.w_fsCons, DL.w_isT, DL.w_revA, DL.s_try, DL.s_raiseI, DL.s_tryP, DL.s_endX, DL.w_isXT, DL.i_any, DL.ia_tup, DL.ia_str, DL.ia_lst, DL.ia_scr, DL.ia_cel, DL.gl_glo, DL.w_callA, DL.s_tryN, DL.s_never, DL.s_fld, DL.w_listN, DL.g_seq, DL.g_cons, DL.g_nil, DL.g_nm, DL.t_yes, DL.wipe_cons, DL.wipe_nil, DL.nn_non, DL.nn_int, DL.nn_str, DL.nn_bl, DL.nn_tup, DL.nn_lst, DL.w_fmR, DL.w_owns, DL.w_nes, DL.w_obSs, DL.w_meths, List.map_cons, List.map_nil, List.length_cons, List.length_nil, List.cons_append, List.nil_append, List.append_nil, List.drop_zero, List.drop_nil, List.drop_succ_cons, List.getElem?_cons_zero, List.getElem?_cons_succ, List.set_cons_zero, List.set_cons_succ, List.replicate_succ, List.replicate_zero, Option.join_some, Option.map_some, if_true, if_false, Bool.not_true, Bool.not_false, true_and, and_true, Nat.reduceAdd, Nat.reduceSub, Nat.reduceLeDiff, decide_true, decide_false, Bool.false_eq_true, Option.bind_some, Int.reduceToNat, List.getElem?_set_self, Int.reduceLT, Int.reduceLE, Int.reduceNeg, Int.reduceSub, Int.reduceAdd, Int.reduceMul, Int.reducePow, Nat.reduceLT, Int.reduceEq, ite_self, c_blk, f_top, f_left, f_bottom, f_right, is_has, is_size, PG.dfl_Block_repr__, PG.dfl_Block_size, PG.dfl_Block_str__, PG.dfl_by_ends, PG.dfl_column_text, PG.dfl_is_columns, PG.dfl_is_count, PG.dfl_is_rows, PG.dfl_letters_ahead, PG.dfl_letters_of, PG.dfl_row_text])
section
variable {μ : List M} {d e : D} {i j : Int} {x : Str} {l : List D} {b c : Blk} {o : Option Int}
/-! texts of ends -/
theorem str_len_app (x y : Str) : (x ++ y).length = x.length + y.length := Array.size_append
def numS (i : Int) : Str := Str.ofString (toString i)
def rowS : Option Int → Str
  | none => ""
  | some i => numS i
def colS : Option Int → Str
  | none => ""
  | some i => mkS (lets i.toNat)
def SmO (o : Option Int) : Prop := ∀ i, o = some i → 1 ≤ i ∧ i ≤ 10000000000000
theorem log_sm {i : Int} (h : 1 ≤ i) (h2 : i ≤ 10000000000000) : i.natAbs.log2 < 1920 := by
  have h3 : i.natAbs < 2 ^ 1920 := by
    have : i.natAbs ≤ 10000000000000 := by omega
    exact Nat.lt_of_le_of_lt this (by decide)
  exact (Nat.log2_lt (by omega)).mpr h3
theorem numS_len {i : Int} (h : 1 ≤ i) (h2 : i ≤ 10000000000000) : (numS i).length ≤ 14 :=
  toString_length_le (by omega) (by decide) (by
    have : (10 : Int) ^ 14 = 100000000000000 := by decide
    omega)
theorem lets_sm {i : Int} (h2 : i ≤ 10000000000000) : (lets i.toNat).length ≤ 10 := len_lets.mpr (by
  have : mxL 10 = 146813779479510 := by decide
  omega)
theorem rowS_len (h : SmO o) : (rowS o).length ≤ 14 := by
  cases o with
  | none => decide
  | some i => exact numS_len (h i rfl).1 (h i rfl).2
theorem colS_len (h : SmO o) : (colS o).length ≤ 14 := by
  cases o with
  | none => decide
  | some i =>
    show (mkS (lets i.toNat)).length ≤ 14
    rw [mkS_len]
    have := lets_sm (h i rfl).2
    omega
theorem x_row (hc : Cln μ) (h : SmO o) : G_row_text [opt o] μ = .ok (.str (rowS o)) μ := by
  apply eq_ok
  unfold G_row_text
  refine wo_fn rfl ?_
  unfold D_row_text
  cases o with
  | none =>
    have z : isNon (opt none) = true := rfl
    trivial
    refine fr_same hc rfl ?_
    exact ⟨rfl, rfl⟩
  | some i =>
    have z : isNon (opt (some i)) = false := rfl
    have z2 : bStr2 μ [opt (some i)] = some (.str (numS i)) := by
      show (if i.natAbs.log2 < 1920 then some (D.str (numS i)) else none) = _
      rw [if_pos (log_sm (h i rfl).1 (h i rfl).2)]
    trivial
    refine fr_same hc rfl ?_
    exact ⟨rfl, rfl⟩
theorem x_column (hc : Cln μ) (h : SmO o) : G_column_text [opt o] μ = .ok (.str (colS o)) μ := by
  apply eq_ok
  unfold G_column_text
  refine wo_fn rfl ?_
  unfold D_column_text
  cases o with
  | none =>
    have z : isNon (opt none) = true := rfl
    trivial
    refine fr_same hc rfl ?_
    exact ⟨rfl, rfl⟩
  | some i =>
    have z : isNon (opt (some i)) = false := rfl
    have h1 := h i rfl
    have z2 : G_letters_of [opt (some i)] μ = .ok (.str (mkS (lets i.toNat))) μ := by
      have := x_letters (n := i.toNat) hc (by omega) (by have := lets_sm h1.2; omega)
      rwa [show ((i.toNat : Nat) : Int) = i by omega] at this
    clear h1
    trivial
    refine fr_same hc rfl ?_
    exact ⟨rfl, rfl⟩
def isR (b : Blk) : Bool := decide (b.l = 1) && (b.r.isNone && b.b.isSome)
def isCo (b : Blk) : Bool := decide (b.t = 1) && (b.b.isNone && b.r.isSome)
theorem nn_opt : (!isNon (opt o)) = o.isSome := by cases o <;> rfl
theorem n_opt : isNon (opt o) = o.isNone := by cases o <;> rfl
theorem x_isR (hc : Cln μ) : G_is_rows [blkD b] μ = .ok (.bl (isR b)) μ := by
  apply eq_ok
  unfold G_is_rows
  refine wo_fn rfl ?_
  unfold D_is_rows
  by_cases h1 : b.l = 1
  · cases h2 : b.r with
    | none =>
      have z : isNon (opt none) = true := rfl
      have z2 := nn_opt (o := b.b)
      trivial
      refine fr_same hc rfl ?_
      exact ⟨by unfold isR; rw [h1, h2, ← nn_opt]; rfl, rfl⟩
    | some r =>
      have z : isNon (opt (some r)) = false := rfl
      trivial
      refine fr_same hc rfl ?_
      exact ⟨by unfold isR; rw [h1, h2]; rfl, rfl⟩
  · trivial
    refine fr_same hc rfl ?_
    exact ⟨by unfold isR; rw [decide_eq_false h1]; rfl, rfl⟩
theorem x_isC (hc : Cln μ) : G_is_columns [blkD b] μ = .ok (.bl (isCo b)) μ := by
  apply eq_ok
  unfold G_is_columns
  refine wo_fn rfl ?_
  unfold D_is_columns
  by_cases h1 : b.t = 1
  · cases h2 : b.b with
    | none =>
      have z : isNon (opt none) = true := rfl
      have z2 := nn_opt (o := b.r)
      trivial
      refine fr_same hc rfl ?_
      exact ⟨by unfold isCo; rw [h1, h2, ← nn_opt]; rfl, rfl⟩
    | some r =>
      have z : isNon (opt (some r)) = false := rfl
      trivial
      refine fr_same hc rfl ?_
      exact ⟨by unfold isCo; rw [h1, h2]; rfl, rfl⟩
  · trivial
    refine fr_same hc rfl ?_
    exact ⟨by unfold isCo; rw [decide_eq_false h1]; rfl, rfl⟩
theorem x_ahead {r c : Str} (hc : Cln μ) (h : r.length + c.length ≤ 100000) : G_letters_ahead [.str r, .str c] μ = .ok (.str (c ++ r)) μ := by
  apply eq_ok
  unfold G_letters_ahead
  refine wo_fn rfl ?_
  unfold D_letters_ahead
  have z : opAdd μ (.str c) (.str r) = some (.str (c ++ r)) := by
    rw [e_addS, if_pos (by omega)]
  trivial
  refine fr_same hc rfl ?_
  exact ⟨rfl, rfl⟩
def endsS (b : Blk) (r0 r1 c0 c1 : Str) : Str :=
  if isR b = true then r0 ++ ":" ++ r1 else if isCo b = true then c0 ++ ":" ++ c1 else if sizeB b = some 1 then c0 ++ r0 else (c0 ++ r0) ++ ":" ++ (c1 ++ r1)
theorem add_s {x y : Str} (h : x.length + y.length ≤ 100000) : opAdd μ (.str x) (.str y) = some (.str (x ++ y)) := by
  rw [e_addS, if_pos h]
theorem col_len : (":" : Str).length = 1 := rfl
theorem cand_la {G : GF} {np : Nat} {cs : List (Str × Nat × GF)} : candOf "letters_ahead" (("letters_ahead", np, G) :: cs) = some (np, G) := if_pos rfl
theorem Blk.smt (hk : b.Ok) (hs : b.Sm) : SmO (some b.t) ∧ SmO b.b ∧ SmO (some b.l) ∧ SmO b.r := by
  refine ⟨fun i e => ?_, fun i e => ?_, fun i e => ?_, fun i e => ?_⟩
  · cases e; exact ⟨hk.ot, hs.st⟩
  · have h1 := hk.ob
    rw [e] at h1
    have h2 : b.t ≤ i := of_decide_eq_true h1
    have := hk.ot
    exact ⟨by omega, hs.sb i e⟩
  · cases e; exact ⟨hk.ol, hs.sl⟩
  · have h1 := hk.or_
    rw [e] at h1
    have h2 : b.l ≤ i := of_decide_eq_true h1
    have := hk.ol
    exact ⟨by omega, hs.sr i e⟩
end
end PG
namespace PG
open PySem PySem.Spec PyProof.Rows L2 DL
/-! texts by their signs -/
/-- numbers of at most twelve figures, of at most nine letters -/
def Fig (o : Option Int) : Prop := ∀ i, o = some i → 1 ≤ i ∧ i ≤ 999999999999
end PG
namespace PG
open PySem PySem.Spec PyProof.Rows L2 DL
local macro_rules | `(tactic| trivial) => `(tactic| simp (config := { dsimp := false }) only [*, eq_self, DL.w_ok, DL.w_ex, DL.w_bind, DL.w_bindS, DL.o_some, DL.w_dC, DL.w_var, DL.w_op, DL.a_nil, DL.a_cons, DL.w_tup, DL.w_lst, DL.w_blt, DL.w_call, DL.w_callN, DL.w_or, DL.w_and, DL.w_not, DL.w_neg, DL.w_if, DL.w_chain, DL.t_tru, DL.t_tst, DL.t_and, DL.t_or, DL.t_not, DL.p_no, DL.p_some, DL.w_slc, DL.w_m1, DL.w_m0, DL.w_fld, DL.s_nil, DL.s_brk, DL.s_cnt, DL.s_retN, DL.s_raise, DL.s_seq, DL.s_ret, DL.s_exp, DL.s_if, DL.s_set, DL.s_new, DL.s_cel, DL.s_retC, DL.s_par, DL.s_asg, DL.e_add, DL.e_sub, DL.e_mulR, DL.e_mulL, DL.e_modS, DL.e_divS, DL.e_pow, DL.e_lt, DL.e_le, DL.e_gt, DL.e_ge, DL.e_is, DL.e_isN, DL.e_eqI, DL.e_neI, DL.e_eqS, DL.e_neS, DL.h_bl, DL.h_int, DL.h_non, DL.b_bl, DL.i_int, DL.s_str, DL.l_lst, DL.q_lst, DL.q_tup, DL.c_lst, DL.c_seq, DL.c_lis, DL.x_cel, DL.x_lst, DL.x_tup, DL.at_nn, DL.ix_in, DL.p_cel, DL.e_mulIf, DL.e_mulM, DL.t_len, DL.t_intB, DL.start, DL.s_setIx, DL.s_for, DL.i_rng, DL.i_rng2, DL.w_lc, DL.r_one, DL.s_app, DL.g_cel, DL.w_dct0, DL.w_meth, DL.isC_obj, DL.w_make, DL.w_pick, DL.pick_cons, DL.pick_nil, DL.w_own, DL.w_ne, DL.w_obS, DL.cls_obj, DL.fld_obj, DL.w_fmt, DL.w_fs, DL.w_fsNil, DL.w_fsCons, DL.w_isT, DL.w_revA, DL.s_try, DL.s_raiseI, DL.s_tryP, DL.s_endX, DL.w_isXT, DL.i_any, DL.ia_tup, DL.ia_str, DL.ia_lst, DL.ia_scr, DL.ia_cel, DL.gl_glo, DL.w_callA, DL.s_tryN, DL.s_never, DL.s_fld, DL.w_listN, DL.g_seq, DL.g_cons, DL.g_nil, DL.g_nm, DL.t_yes, DL.wipe_cons, DL.wipe_nil, DL.nn_non, DL.nn_int, DL.nn_str, DL.nn_bl, DL.nn_tup, DL.nn_lst, DL.w_fmR, DL.w_owns, DL.w_nes, DL.w_obSs, DL.w_meths, List.map_cons, List.map_nil, List.length_cons, List.length_nil, List.cons_append, List.nil_append, List.append_nil, List.drop_zero, List.drop_nil, List.drop_succ_cons, List.getElem?_cons_zero, List.getElem?_cons_succ, List.set_cons_zero, List.set_cons_succ, List.replicate_succ, List.replicate_zero, Option.join_some, Option.map_some, if_true, if_false, Bool.not_true, Bool.not_false, true_and, and_true, Nat.reduceAdd, Nat.reduceSub, Nat.reduceLeDiff, decide_true, decide_false, Bool.false_eq_true, Option.bind_some, Int.reduceToNat, List.getElem?_set_self, Int.reduceLT, Int.reduceLE, Int.reduceNeg, Int.reduceSub, Int.reduceAdd, Int.reduceMul, Int.reducePow, Nat.reduceLT, Int.reduceEq, ite_self, t_isS, t_isN, t_isB, Option.isSome, PG.dfl_count_of, PG.dfl_number_of, PG.dfl_parted])
end PG
namespace PG
open PySem PySem.Spec PyProof.Rows L2 DL
theorem opt_none' : opt none = .non := rfl
theorem opt_some' {i : Int} : opt (some i) = .int i := rfl
local macro_rules | `(tactic| trivial) => `(tactic| simp (config := { dsimp := false }) only [*, eq_self, DL.w_ok, DL.w_ex, DL.w_bind, DL.w_bindS, DL.o_some, DL.w_dC, DL.w_var, DL.w_op, DL.a_nil, DL.a_cons, DL.w_tup, DL.w_lst, DL.w_blt, DL.w_call, DL.w_callN, DL.w_or, DL.w_and, DL.w_not, DL.w_neg, DL.w_if, DL.w_chain, DL.t_tru, DL.t_tst, DL.t_and, DL.t_or, DL.t_not, DL.p_no, DL.p_some, DL.w_slc, DL.w_m1, DL.w_m0, DL.w_fld, DL.s_nil, DL.s_brk, DL.s_cnt, DL.s_retN, DL.s_raise, DL.s_seq, DL.s_ret, DL.s_exp, DL.s_if, DL.s_set, DL.s_new, DL.s_cel, DL.s_retC, DL.s_par, DL.s_asg, DL.e_add, DL.e_sub, DL.e_mulR, DL.e_mulL, DL.e_modS, DL.e_divS, DL.e_pow, DL.e_lt, DL.e_le, DL.e_gt, DL.e_ge, DL.e_is, DL.e_isN, DL.e_eqI, DL.e_neI, DL.e_eqS, DL.e_neS, DL.h_bl, DL.h_int, DL.h_non, DL.b_bl, DL.i_int, DL.s_str, DL.l_lst, DL.q_lst, DL.q_tup, DL.c_lst, DL.c_seq, DL.c_lis, DL.x_cel, DL.x_lst, DL.x_tup, DL.at_nn, DL.ix_in, DL.p_cel, DL.e_mulIf, DL.e_mulM, DL.t_len, DL.t_intB, DL.start, DL.s_setIx, DL.s_for, DL.i_rng, DL.i_rng2, DL.w_lc, DL.r_one, DL.s_app, DL.g_cel, DL.w_dct0, DL.w_meth, DL.isC_obj, DL.w_make, DL.w_pick, DL.pick_cons, DL.pick_nil, DL.w_own, DL.w_ne, DL.w_obS, DL.cls_obj, DL.fld_obj, DL.w_fmt, DL.w_fs, DL.w_fsNil, DL.w_fsCons, DL.w_isT, DL.w_revA, DL.s_try, DL.s_raiseI, DL.s_tryP, DL.s_endX, DL.w_isXT, DL.i_any, DL.ia_tup, DL.ia_str, DL.ia_lst, DL.ia_scr, DL.ia_cel, DL.gl_glo, DL.w_callA, DL.s_tryN, DL.s_never, DL.s_fld, DL.w_listN, DL.g_seq, DL.g_cons, DL.g_nil, DL.g_nm, DL.t_yes, DL.wipe_cons, DL.wipe_nil, DL.nn_non, DL.nn_int, DL.nn_str, DL.nn_bl, DL.nn_tup, DL.nn_lst, DL.w_fmR, DL.w_owns, DL.w_nes, DL.w_obSs, DL.w_meths, List.map_cons, List.map_nil, List.length_cons, List.length_nil, List.cons_append, List.nil_append, List.append_nil, List.drop_zero, List.drop_nil, List.drop_succ_cons, List.getElem?_cons_zero, List.getElem?_cons_succ, List.set_cons_zero, List.set_cons_succ, List.replicate_succ, List.replicate_zero, Option.join_some, Option.map_some, if_true, if_false, Bool.not_true, Bool.not_false, true_and, and_true, Nat.reduceAdd, Nat.reduceSub, Nat.reduceLeDiff, decide_true, decide_false, Bool.false_eq_true, Option.bind_some, Int.reduceToNat, List.getElem?_set_self, Int.reduceLT, Int.reduceLE, Int.reduceNeg, Int.reduceSub, Int.reduceAdd, Int.reduceMul, Int.reducePow, Nat.reduceLT, Int.reduceEq, ite_self, t_isS, c_blk, Option.isSome, Option.getD, opt_none', opt_some', PG.dfl_Block_init__, PG.dfl_Block_str__, PG.dfl_block_of, PG.dfl_count_of, PG.dfl_number_of, PG.dfl_parted])
section
variable {μ m : List M} {b c : Blk} {o p : Option Int} {l : List Nat}
/-- a block's numbers can be written -/
structure Blk.Fg (b : Blk) : Prop where
  ok : b.Ok
  ft : Fig (some b.t)
  fl : Fig (some b.l)
  fb : Fig b.b
  fr : Fig b.r
theorem Blk.Fg.sm (h : b.Fg) : b.Sm := ⟨by have := (h.ft _ rfl).2; omega, by have := (h.fl _ rfl).2; omega, fun q e => by have := (h.fb q e).2; omega, fun q e => by have := (h.fr q e).2; omega⟩
theorem neS_self {x : Str} : opNe m (.str x) (.str x) = some (.bl false) := by rw [e_neS]; simp
end
end PG
namespace PG
open PySem PySem.Spec PyProof.Rows L2 DL
end PG
namespace PG
open PySem PySem.Spec PyProof.Rows L2 DL
local macro_rules | `(tactic| trivial) => `(tactic| simp (config := { dsimp := false }) only [*, eq_self, DL.w_ok, DL.w_ex, DL.w_bind, DL.w_bindS, DL.o_some, DL.w_dC, DL.w_var, DL.w_op, DL.a_nil, DL.a_cons, DL.w_tup, DL.w_lst, DL.w_blt, DL.w_call, DL.w_callN, DL.w_or, DL.w_and, DL.w_not, DL.w_neg, DL.w_if, DL.w_chain, DL.t_tru, DL.t_tst, DL.t_and, DL.t_or, DL.t_not, DL.p_no, DL.p_some, DL.w_slc, DL.w_m1, DL.w_m0, DL.w_fld, DL.s_nil, DL.s_brk, DL.s_cnt, DL.s_retN, DL.s_raise, DL.s_seq, DL.s_ret, DL.s_exp, DL.s_if, DL.s_set, DL.s_new, DL.s_cel, DL.s_retC, DL.s_par, DL.s_asg, DL.e_add, DL.e_sub, DL.e_mulR, DL.e_mulL, DL.e_modS, DL.e_divS, DL.e_pow, DL.e_lt, DL.e_le, DL.e_gt, DL.e_ge, DL.e_is, DL.e_isN, DL.e_eqI, DL.e_neI, DL.e_eqS, DL.e_neS, DL.h_bl, DL.h_int, DL.h_non, DL.b_bl, DL.i_int, DL.s_str, DL.l_lst, DL.q_lst, DL.q_tup, DL.c_lst, DL.c_seq, DL.c_lis, DL.x_cel, DL.x_lst, DL.x_tup, DL.at_nn, DL.ix_in, DL.p_cel, DL.e_mulIf, DL.e_mulM, DL.t_len, DL.t_intB, DL.start, DL.s_setIx, DL.s_for, DL.i_rng, DL.i_rng2, DL.w_lc, DL.r_one, DL.s_app, DL.g_cel, DL.w_dct0, DL.w_meth, DL.isC_obj, DL.w_make, DL.w_pick, DL.pick_cons, DL.pick_nil, DL.w_own, DL.w_ne, DL.w_obS, DL.cls_obj, DL.fld_obj, DL.w_fmt, DL.w_fs, DL.w_fsNil, DL.w_fsCons, DL.w_isT, DL.w_revA, DL.s_try, DL.s_raiseI, DL.s_tryP, DL.s_endX, DL.w_isXT, DL.i_any, DL.ia_tup, DL.ia_str, DL.ia_lst, DL.ia_scr, DL.ia_cel, DL.gl_glo, DL.w_callA, DL.s_tryN, DL.s_never, DL.s_fld, DL.w_listN, DL.g_seq, DL.g_cons, DL.g_nil, DL.g_nm, DL.t_yes, DL.wipe_cons, DL.wipe_nil, DL.nn_non, DL.nn_int, DL.nn_str, DL.nn_bl, DL.nn_tup, DL.nn_lst, DL.w_fmR, DL.w_owns, DL.w_nes, DL.w_obSs, DL.w_meths, List.map_cons, List.map_nil, List.length_cons, List.length_nil, List.cons_append, List.nil_append, List.append_nil, List.drop_zero, List.drop_nil, List.drop_succ_cons, List.getElem?_cons_zero, List.getElem?_cons_succ, List.set_cons_zero, List.set_cons_succ, List.replicate_succ, List.replicate_zero, Option.join_some, Option.map_some, if_true, if_false, Bool.not_true, Bool.not_false, true_and, and_true, Nat.reduceAdd, Nat.reduceSub, Nat.reduceLeDiff, decide_true, decide_false, Bool.false_eq_true, Option.bind_some, Int.reduceToNat, List.getElem?_set_self, Int.reduceLT, Int.reduceLE, Int.reduceNeg, Int.reduceSub, Int.reduceAdd, Int.reduceMul, Int.reducePow, Nat.reduceLT, Int.reduceEq, ite_self, t_isS, c_blk, opt_none', opt_some', PG.dfl_law_letters, PG.dfl_law_text])
section
variable {μ m : List M} {b c : Blk} {o p : Option Int} {l : List Nat}
theorem size1_iff (hk : b.Ok) : sizeB b = some 1 ↔ b.b = some b.t ∧ b.r = some b.l := by
  unfold sizeB
  cases hq : b.b with
  | none => exact ⟨fun h => (nomatch h), fun h => (nomatch h.1)⟩
  | some q =>
    cases hw : b.r with
    | none => exact ⟨fun h => (nomatch h), fun h => (nomatch h.2)⟩
    | some w =>
      have h1 : b.t ≤ q := of_decide_eq_true (by have := hk.ob; rw [hq] at this; exact this)
      have h2 : b.l ≤ w := of_decide_eq_true (by have := hk.or_; rw [hw] at this; exact this)
      constructor
      · intro k3
        have k4 : (q - b.t + 1) * (w - b.l + 1) = 1 := Option.some.inj k3
        have h3 : q = b.t := by
          by_cases z : q = b.t
          · exact z
          · have h5 : 2 * 1 ≤ (q - b.t + 1) * (w - b.l + 1) := Int.mul_le_mul (by omega) (by omega) (by decide) (by omega)
            omega
        have h4 : w = b.l := by
          by_cases z : w = b.l
          · exact z
          · have h5 : 1 * 2 ≤ (q - b.t + 1) * (w - b.l + 1) := Int.mul_le_mul (by omega) (by omega) (by decide) (by omega)
            omega
        rw [h3, h4]
        exact ⟨rfl, rfl⟩
      · rintro ⟨z1, z2⟩
        have h3 : q = b.t := Option.some.inj z1
        have h4 : w = b.l := Option.some.inj z2
        rw [h3, h4]
        show some ((b.t - b.t + 1) * (b.l - b.l + 1)) = some 1
        rw [Int.sub_self, Int.sub_self]
        rfl
theorem eq_ends {t l : Int} {q r : Option Int} : opEq m (.tup [.int t, .int l]) (.tup [opt q, opt r]) = some (.bl (decide (q = some t ∧ r = some l))) := by
  have e1 : ∀ (i : Int) (o : Option Int), eqB (.int i) (opt o) = decide (o = some i) := fun i o => by
    cases o with
    | none => rfl
    | some j =>
      show (i == j) = _
      by_cases h : i = j
      · subst h; simp
      · have : ¬ (some j = some i) := fun e => h (Option.some.inj e).symm
        rw [decide_eq_false this]
        simpa using h
  show (if eqOk (.tup [.int t, .int l]) (.tup [opt q, opt r]) = true then some (D.bl (eqB (.tup [.int t, .int l]) (.tup [opt q, opt r]))) else none) = _
  rw [if_pos (by unfold eqOk; cases q <;> cases r <;> rfl)]
  show some (D.bl (eqB (.int t) (opt q) && (eqB (.int l) (opt r) && true))) = _
  rw [e1, e1, Bool.and_true, ← Bool.decide_and]
structure Hide (p : Prop) : Prop where
  out : p
end
end PG
namespace PG
open PySem PySem.Spec PyProof.Rows L2 DL
local macro_rules | `(tactic| trivial) => `(tactic| simp (config := { dsimp := false }) only [*, eq_self, DL.w_ok, DL.w_ex, DL.w_bind, DL.w_bindS, DL.o_some, DL.w_dC, DL.w_var, DL.w_op, DL.a_nil, DL.a_cons, DL.w_tup, DL.w_lst, DL.w_blt, DL.w_call, DL.w_callN, DL.w_or, DL.w_and, DL.w_not, DL.w_neg, DL.w_if, DL.w_chain, DL.t_tru, DL.t_tst, DL.t_and, DL.t_or, DL.t_not, DL.p_no, DL.p_some, DL.w_slc, DL.w_m1, DL.w_m0, DL.w_fld, DL.s_nil, DL.s_brk, DL.s_cnt, DL.s_retN, DL.s_raise, DL.s_seq, DL.s_ret, DL.s_exp, DL.s_if, DL.s_set, DL.s_new, DL.s_cel, DL.s_retC, DL.s_par, DL.s_asg, DL.e_add, DL.e_sub, DL.e_mulR, DL.e_mulL, DL.e_modS, DL.e_divS, DL.e_pow, DL.e_lt, DL.e_le, DL.e_gt, DL.e_ge, DL.e_is, DL.e_isN, DL.e_eqI, DL.e_neI, DL.e_eqS, DL.e_neS, DL.h_bl, DL.h_int, DL.h_non, DL.b_bl, DL.i_int, DL.s_str, DL.l_lst, DL.q_lst, DL.q_tup, DL.c_lst, DL.c_seq, DL.c_lis, DL.x_cel, DL.x_lst, DL.x_tup, DL.at_nn, DL.ix_in, DL.p_cel, DL.e_mulIf, DL.e_mulM, DL.t_len, DL.t_intB, DL.start, DL.s_setIx, DL.s_for, DL.i_rng, DL.i_rng2, DL.w_lc, DL.r_one, DL.s_app, DL.g_cel, DL.w_dct0, DL.w_meth, DL.isC_obj, DL.w_make, DL.w_pick, DL.pick_cons, DL.pick_nil, DL.w_own, DL.w_ne, DL.w_obS, DL.cls_obj, DL.fld_obj, DL.w_fmt, DL.w_fs, DL.w_fsNil, DL.w_fsCons, DL.w_isT, DL.w_revA, DL.s_try, DL.s_raiseI, DL.s_tryP, DL.s_endX, DL.w_isXT, DL.i_any, DL.ia_tup, DL.ia_str, DL.ia_lst, DL.ia_scr, DL.ia_cel, DL.gl_glo, DL.w_callA, DL.s_tryN, DL.s_never, DL.s_fld, DL.w_listN, DL.g_seq, DL.g_cons, DL.g_nil, DL.g_nm, DL.t_yes, DL.wipe_cons, DL.wipe_nil, DL.nn_non, DL.nn_int, DL.nn_str, DL.nn_bl, DL.nn_tup, DL.nn_lst, DL.w_fmR, DL.w_owns, DL.w_nes, DL.w_obSs, DL.w_meths, List.map_cons, List.map_nil, List.length_cons, List.length_nil, List.cons_append, List.nil_append, List.append_nil, List.drop_zero, List.drop_nil, List.drop_succ_cons, List.getElem?_cons_zero, List.getElem?_cons_succ, List.set_cons_zero, List.set_cons_succ, List.replicate_succ, List.replicate_zero, Option.join_some, Option.map_some, if_true, if_false, Bool.not_true, Bool.not_false, true_and, and_true, Nat.reduceAdd, Nat.reduceSub, Nat.reduceLeDiff, decide_true, decide_false, Bool.false_eq_true, Option.bind_some, Int.reduceToNat, List.getElem?_set_self, Int.reduceLT, Int.reduceLE, Int.reduceNeg, Int.reduceSub, Int.reduceAdd, Int.reduceMul, Int.reducePow, Nat.reduceLT, Int.reduceEq, ite_self, c_blk, f_top, f_left, f_bottom, f_right, is_has, is_size, PG.dfl_law_block, PG.dfl_law_draw, PG.dfl_law_last, PG.dfl_law_number])
section
variable {μ m : List M} {d e : D} {i : Nat} {x : Str} {l : List D} {b c : Blk} {o : Option Int}
theorem ix_ints {ns : List Int} {s : Int} (h0 : 0 ≤ s) (h1 : s < ns.length) : ∃ n ∈ ns, opIx m (.lst (ns.map D.int)) (.int s) = some (.int n) := by
  have h2 : s.toNat < ns.length := by omega
  refine ⟨ns[s.toNat], List.getElem_mem h2, ?_⟩
  rw [x_lst, at_nn h0, List.getElem?_map, List.getElem?_eq_getElem h2]
  rfl
theorem number_k {Q : D → List M → Prop} {X : XP} (h : Dr μ i m) (k : ∀ n m', 1 ≤ n → n ≤ 999999999998 → Dr μ i m' → Q (.int n) m') : WO (G_law_number [.cel i] m) Q X ⟨⟩ := by
  refine WO.use (Q' := fun x m' => ∃ n, x = .int n ∧ 1 ≤ n ∧ n ≤ 999999999998 ∧ Dr μ i m') (k' := ⟨⟩) ?_ (by rintro x m' ⟨n, rfl, h1, h2, h3⟩; exact k n m' h1 h2 h3)
  unfold G_law_number
  refine wo_fn rfl ?_
  unfold D_law_number
  trivial
  refine draw_k h.self (by decide) (by decide) fun r m1 r0 r1 w1 => ?_
  by_cases c1 : r < 4
  · trivial
    refine draw_k w1 (by decide) (by decide) fun s m2 s0 s1 w2 => ?_
    trivial
    exact w2.fr rfl ⟨_, rfl, by omega, by omega, h.trans w2⟩
  · by_cases c2 : r = 4
    · trivial
      refine draw_k w1 (by decide) (by decide) fun s m2 s0 s1 w2 => ?_
      obtain ⟨n, hn, e1⟩ := ix_ints (m := m2) (ns := [26, 27, 52, 53, 702, 703, 18278, 18279, 217180147158, 217180147159, 999999999998, 1]) s0 s1
      have e2 : opIx m2 (.lst [.int 26, .int 27, .int 52, .int 53, .int 702, .int 703, .int 18278, .int 18279, .int 217180147158, .int 217180147159, .int 999999999998, .int 1]) (.int s) = some (.int n) := e1
      have e3 : ∀ n ∈ [(26 : Int), 27, 52, 53, 702, 703, 18278, 18279, 217180147158, 217180147159, 999999999998, 1], 1 ≤ n ∧ n ≤ 999999999998 := by decide
      have e4 := e3 n hn
      clear e3 e1 hn
      trivial
      exact w2.fr rfl ⟨_, rfl, e4.1, e4.2, h.trans w2⟩
    · by_cases c3 : r = 5
      · trivial
        refine draw_k w1 (by decide) (by decide) fun s m2 s0 s1 w2 => ?_
        trivial
        exact w2.fr rfl ⟨_, rfl, by omega, by omega, h.trans w2⟩
      · trivial
        refine draw_k w1 (by decide) (by decide) fun s m2 s0 s1 w2 => ?_
        trivial
        exact w2.fr rfl ⟨_, rfl, by omega, by omega, h.trans w2⟩
theorem last_k {f : Int} {Q : D → List M → Prop} {X : XP} (h : Dr μ i m) (hf : f ≤ 999999999998) (k : ∀ n m', f ≤ n → n ≤ 999999999998 → Dr μ i m' → Q (.int n) m') : WO (G_law_last [.cel i, .int f] m) Q X ⟨⟩ := by
  refine WO.use (Q' := fun x m' => ∃ n, x = .int n ∧ f ≤ n ∧ n ≤ 999999999998 ∧ Dr μ i m') (k' := ⟨⟩) ?_ (by rintro x m' ⟨n, rfl, h1, h2, h3⟩; exact k n m' h1 h2 h3)
  unfold G_law_last
  refine wo_fn rfl ?_
  unfold D_law_last
  trivial
  refine draw_k h.self (by decide) (by decide) fun r m1 r0 r1 w1 => ?_
  have mn : ∀ (m : List M) (a b : Int), bMin m [.int a, .int b] = some (.int (if b < a then b else a)) := fun _ _ _ => rfl
  by_cases c1 : r < 2
  · trivial
    exact w1.fr rfl ⟨_, rfl, by omega, by omega, h.trans w1⟩
  · by_cases c2 : r = 2
    · trivial
      refine draw_k w1 (by decide) (by decide) fun s m2 s0 s1 w2 => ?_
      trivial
      refine w2.fr rfl ⟨_, rfl, ?_, ?_, h.trans w2⟩
      · split <;> omega
      · split <;> omega
    · trivial
      refine draw_k w1 (by decide) (by decide) fun s m2 s0 s1 w2 => ?_
      trivial
      refine w2.fr rfl ⟨_, rfl, ?_, ?_, h.trans w2⟩
      · split <;> omega
      · split <;> omega
/-- what the law draws: a block's numbers -/
structure Blk.Dn (b : Blk) : Prop where
  ok : b.Ok
  dt : b.t ≤ 999999999998
  dl : b.l ≤ 999999999998
  db : ∀ q, b.b = some q → q ≤ 999999999998
  dr : ∀ q, b.r = some q → q ≤ 999999999998
theorem Blk.Dn.sm (h : b.Dn) : b.Sm := ⟨by have := h.dt; omega, by have := h.dl; omega, fun q e => by have := h.db q e; omega, fun q e => by have := h.dr q e; omega⟩
theorem block_k {Q : D → List M → Prop} {X : XP} (h : Dr μ i m) (k : ∀ b m', b.Dn → Dr μ i m' → Q (four b) m') : WO (G_law_block [.cel i] m) Q X ⟨⟩ := by
  refine WO.use (Q' := fun x m' => ∃ b, x = four b ∧ b.Dn ∧ Dr μ i m') (k' := ⟨⟩) ?_ (by rintro x m' ⟨b, rfl, h1, h2⟩; exact k b m' h1 h2)
  unfold G_law_block
  refine wo_fn rfl ?_
  unfold D_law_block
  trivial
  refine draw_k h.self (by decide) (by decide) fun r m1 r0 r1 w1 => ?_
  trivial
  refine number_k w1 fun t m2 t1 t2 w2 => ?_
  trivial
  refine last_k w2 t2 fun q m3 q1 q2 w3 => ?_
  trivial
  refine number_k w3 fun u m4 u1 u2 w4 => ?_
  trivial
  refine last_k w4 u2 fun v m5 v1 v2 w5 => ?_
  clear w1 w2 w3 w4
  have dn : ∀ (t u : Int) (q v : Option Int), 1 ≤ t → t ≤ 999999999998 → 1 ≤ u → u ≤ 999999999998 → (∀ z, q = some z → t ≤ z ∧ z ≤ 999999999998) → (∀ z, v = some z → u ≤ z ∧ z ≤ 999999999998) → Blk.Dn ⟨t, u, q, v⟩ := fun t u q v a1 a2 a3 a4 a5 a6 =>
    ⟨⟨a1, a3, by cases q with | none => rfl | some z => exact decide_eq_true (a5 z rfl).1, by cases v with | none => rfl | some z => exact decide_eq_true (a6 z rfl).1⟩, a2, a4, fun z e => (a5 z e).2, fun z e => (a6 z e).2⟩
  have nn : ∀ {f : Int}, ∀ z, (none : Option Int) = some z → f ≤ z ∧ z ≤ 999999999998 := fun _ z => nomatch z
  have ss : ∀ {f g : Int}, f ≤ g → g ≤ 999999999998 → ∀ z, some g = some z → f ≤ z ∧ z ≤ 999999999998 := fun a b z e => by cases e; exact ⟨a, b⟩
  have fin : ∀ b : Blk, b.Dn → FR m.length m5 (four b) (fun x m' => ∃ b, x = four b ∧ b.Dn ∧ Dr μ i m') := fun b hb => w5.fr clean_four ⟨b, rfl, hb, h.trans w5⟩
  by_cases c0 : r = 0
  · trivial
    exact fin ⟨t, u, some t, some u⟩ (dn _ _ _ _ t1 t2 u1 u2 (ss (Int.le_refl _) t2) (ss (Int.le_refl _) u2))
  · by_cases c1 : r = 1
    · trivial
      exact fin ⟨t, 1, some q, none⟩ (dn _ _ _ _ t1 t2 (by decide) (by decide) (ss q1 q2) nn)
    · by_cases c2 : r = 2
      · trivial
        exact fin ⟨1, u, none, some v⟩ (dn _ _ _ _ (by decide) (by decide) u1 u2 nn (ss v1 v2))
      · by_cases c3 : r < 6
        · have c4 : r = 3 ∨ r = 4 ∨ r = 5 := by omega
          rcases c4 with c4 | c4 | c4
          · clear c0 c1 c2 c3 r0 r1
            trivial
            exact fin ⟨t, u, none, some v⟩ (dn _ _ _ _ t1 t2 u1 u2 nn (ss v1 v2))
          · clear c0 c1 c2 c3 r0 r1
            trivial
            exact fin ⟨t, u, some q, none⟩ (dn _ _ _ _ t1 t2 u1 u2 (ss q1 q2) nn)
          · clear c0 c1 c2 c3 r0 r1
            trivial
            exact fin ⟨t, u, none, none⟩ (dn _ _ _ _ t1 t2 u1 u2 nn nn)
        · by_cases c4 : r = 6
          · trivial
            exact fin ⟨1, 1, none, none⟩ (dn _ _ _ _ (by decide) (by decide) (by decide) (by decide) nn nn)
          · trivial
            exact fin ⟨t, u, some q, some v⟩ (dn _ _ _ _ t1 t2 u1 u2 (ss q1 q2) (ss v1 v2))
end
end PG
namespace PG
open PySem PySem.Spec PyProof.Rows L2 DL
/-! data that is the same is equal -/
mutual
theorem eqB_self : ∀ x : D, plain x = true → eqB x x = true
  | .non, _ => by unfold eqB; rfl
  | .bl b, _ => by unfold eqB; simp
  | .int i, _ => by unfold eqB; simp
  | .str s, _ => by unfold eqB; simp
  | .tup l, h => by unfold eqB; unfold DL.plain at h; exact eqBs_self l h
  | .lst l, h => by unfold eqB; unfold DL.plain at h; exact eqBs_self l h
  | .scr _, h => by unfold DL.plain at h; cases h
  | .cel _, h => by unfold DL.plain at h; cases h
  | .obj _ _ _, h => by unfold DL.plain at h; cases h
  | .dct _ _, h => by unfold DL.plain at h; cases h
  | .ty _, h => by unfold DL.plain at h; cases h
  | .glo _, h => by unfold DL.plain at h; cases h
theorem eqBs_self : ∀ l : List D, plains l = true → eqBs l l = true
  | [], _ => by unfold eqBs; rfl
  | d :: l, h => by
    unfold plains at h
    obtain ⟨h1, h2⟩ := Bool.and_eq_true_iff.mp h
    unfold eqBs
    rw [eqB_self d h1, eqBs_self l h2]
    rfl
end
section
variable {m : List M} {d e x : D}
theorem eqOk_self (p : plain x = true) (q : dep x ≤ 64) : eqOk x x = true := by
  unfold eqOk
  rw [p, decide_eq_true q]; rfl
theorem ne_same (h : now m d = x) (h' : now m e = x) (p : plain x = true) (q : dep x ≤ 64) : opNe m d e = some (.bl false) := by
  show (if eqOk (now m d) (now m e) = true then some (D.bl (!eqB (now m d) (now m e))) else none) = _
  rw [h, h', eqOk_self p q, if_pos rfl, eqB_self x p]; rfl
end
theorem Blk.Dn.fg {b : Blk} (h : b.Dn) : b.Fg := by
  have h1 := h.ok
  refine ⟨h.ok, ?_, ?_, ?_, ?_⟩
  · intro i e; cases e; exact ⟨h1.ot, by have := h.dt; omega⟩
  · intro i e; cases e; exact ⟨h1.ol, by have := h.dl; omega⟩
  · intro i e
    have h2 := h1.ob
    rw [e] at h2
    have h3 : b.t ≤ i := of_decide_eq_true h2
    have := h1.ot
    exact ⟨by omega, by have := h.db i e; omega⟩
  · intro i e
    have h2 := h1.or_
    rw [e] at h2
    have h3 : b.l ≤ i := of_decide_eq_true h2
    have := h1.ol
    exact ⟨by omega, by have := h.dr i e; omega⟩
end PG
namespace PG
open PySem PySem.Spec PyProof.Rows L2 DL
local macro_rules | `(tactic| trivial) => `(tactic| simp (config := { dsimp := false }) only [*, eq_self, DL.w_ok, DL.w_ex, DL.w_bind, DL.w_bindS, DL.o_some, DL.w_dC, DL.w_var, DL.w_op, DL.a_nil, DL.a_cons, DL.w_tup, DL.w_lst, DL.w_blt, DL.w_call, DL.w_callN, DL.w_or, DL.w_and, DL.w_not, DL.w_neg, DL.w_if, DL.w_chain, DL.t_tru, DL.t_tst, DL.t_and, DL.t_or, DL.t_not, DL.p_no, DL.p_some, DL.w_slc, DL.w_m1, DL.w_m0, DL.w_fld, DL.s_nil, DL.s_brk, DL.s_cnt, DL.s_retN, DL.s_raise, DL.s_seq, DL.s_ret, DL.s_exp, DL.s_if, DL.s_set, DL.s_new, DL.s_cel, DL.s_retC, DL.s_par, DL.s_asg, DL.e_add, DL.e_sub, DL.e_mulR, DL.e_mulL, DL.e_modS, DL.e_divS, DL.e_pow, DL.e_lt, DL.e_le, DL.e_gt, DL.e_ge, DL.e_is, DL.e_isN, DL.e_eqI, DL.e_neI, DL.e_eqS, DL.e_neS, DL.h_bl, DL.h_int, DL.h_non, DL.b_bl, DL.i_int, DL.s_str, DL.l_lst, DL.q_lst, DL.q_tup, DL.c_lst, DL.c_seq, DL.c_lis, DL.x_cel, DL.x_lst, DL.x_tup, DL.at_nn, DL.ix_in, DL.p_cel, DL.e_mulIf, DL.e_mulM, DL.t_len, DL.t_intB, DL.start, DL.s_setIx, DL.s_for, DL.i_rng, DL.i_rng2, DL.w_lc, DL.r_one, DL.s_app, DL.g_cel, DL.w_dct0, DL.w_meth, DL.isC_obj, DL.w_make, DL.w_pick, DL.pick_cons, DL.pick_nil, DL.w_own, DL.w_ne, DL.w_obS, DL.cls_obj, DL.fld_obj, DL.w_fmt, DL.w_fs, DL.w_fsNil, DL.w_fsCons, DL.w_isT, DL.w_revA, DL.s_try, DL.s_raiseI, DL.s_tryP, DL.s_endX, DL.w_isXT, DL.i_any, DL.ia_tup, DL.ia_str, DL.ia_lst, DL.ia_scr, DL.ia_cel, DL.gl_glo, DL.w_callA, DL.s_tryN, DL.s_never, DL.s_fld, DL.w_listN, DL.g_seq, DL.g_cons, DL.g_nil, DL.g_nm, DL.t_yes, DL.wipe_cons, DL.wipe_nil, DL.nn_non, DL.nn_int, DL.nn_str, DL.nn_bl, DL.nn_tup, DL.nn_lst, DL.w_fmR, DL.w_owns, DL.w_nes, DL.w_obSs, DL.w_meths, List.map_cons, List.map_nil, List.length_cons, List.length_nil, List.cons_append, List.nil_append, List.append_nil, List.drop_zero, List.drop_nil, List.drop_succ_cons, List.getElem?_cons_zero, List.getElem?_cons_succ, List.set_cons_zero, List.set_cons_succ, List.replicate_succ, List.replicate_zero, Option.join_some, Option.map_some, if_true, if_false, Bool.not_true, Bool.not_false, true_and, and_true, Nat.reduceAdd, Nat.reduceSub, Nat.reduceLeDiff, decide_true, decide_false, Bool.false_eq_true, Option.bind_some, Int.reduceToNat, List.getElem?_set_self, Int.reduceLT, Int.reduceLE, Int.reduceNeg, Int.reduceSub, Int.reduceAdd, Int.reduceMul, Int.reducePow, Nat.reduceLT, Int.reduceEq, ite_self, PG.dfl_law_word])
section
variable {μ : List M}
theorem x_word_name (hc : Cln μ) : G_law_word [.exc "NoName" [] []] μ = .ok (.str "name") μ := by
  apply eq_ok
  unfold G_law_word
  refine wo_fn rfl ?_
  unfold D_law_word
  have k0 : bIsX (["NoCell", "NoColumn", "NoBlock", "NoName"] : List Str) (.inr "NoCell") μ [.exc "NoName" [] [], .glo "NoCell"] = some (.bl false) := by with_unfolding_all rfl
  have k1 : bIsX (["NoCell", "NoColumn", "NoBlock", "NoName"] : List Str) (.inr "NoColumn") μ [.exc "NoName" [] [], .glo "NoColumn"] = some (.bl false) := by with_unfolding_all rfl
  have k2 : bIsX (["NoCell", "NoColumn", "NoBlock", "NoName"] : List Str) (.inr "NoBlock") μ [.exc "NoName" [] [], .glo "NoBlock"] = some (.bl false) := by with_unfolding_all rfl
  have k3 : bIsX (["NoCell", "NoColumn", "NoBlock", "NoName"] : List Str) (.inr "NoText") μ [.exc "NoName" [] [], .glo "NoText"] = some (.bl false) := by with_unfolding_all rfl
  have k4 : bIsX (["NoCell", "NoColumn", "NoBlock", "NoName"] : List Str) (.inr "NoName") μ [.exc "NoName" [] [], .glo "NoName"] = some (.bl true) := by with_unfolding_all rfl
  have k5 : bIsX (["NoCell", "NoColumn", "NoBlock", "NoName"] : List Str) (.inr "NoManner") μ [.exc "NoName" [] [], .glo "NoManner"] = some (.bl false) := by with_unfolding_all rfl
  have k6 : bIsX (["NoCell", "NoColumn", "NoBlock", "NoName"] : List Str) (.inr "Gone") μ [.exc "NoName" [] [], .glo "Gone"] = some (.bl false) := by with_unfolding_all rfl
  have k7 : bIsX (["NoCell", "NoColumn", "NoBlock", "NoName"] : List Str) (.inr "NoNumber") μ [.exc "NoName" [] [], .glo "NoNumber"] = some (.bl false) := by with_unfolding_all rfl
  have k8 : bIsX (["NoCell", "NoColumn", "NoBlock", "NoName"] : List Str) (.inl "ValueError") μ [.exc "NoName" [] [], .ty "ValueError"] = some (.bl true) := by with_unfolding_all rfl
  have t1 : isxt (["NoCell", "NoColumn", "NoBlock", "NoName"] : List Str) ["Endless", "NoArea", "NoChange", "NoOrder", "NoPlace", "NoRow"] (.exc "NoName" [] []) = some (.bl false) := by with_unfolding_all rfl
  have t2 : isxt (["NoCell", "NoColumn", "NoBlock", "NoName"] : List Str) ["NoSheet", "NoValue", "NoWord", "Ring", "Unknown"] (.exc "NoName" [] []) = some (.bl false) := by with_unfolding_all rfl
  have ad : opAdd μ (.lst [.bl false, .bl false, .bl false, .bl false]) (.lst [.bl true, .bl false, .bl false, .bl false]) = some (.lst [.bl false, .bl false, .bl false, .bl false, .bl true, .bl false, .bl false, .bl false]) := by rw [e_addL l_lst l_lst, if_pos (by show 4 + 4 ≤ 100000; decide)]; rfl
  have io : iota 0 8 = [.int 0, .int 1, .int 2, .int 3, .int 4, .int 5, .int 6, .int 7] := rfl
  have w := @w_lcCons
  have w' := @w_lcNil
  have jn : dJoin μ " " [.lst [.str "name"]] = some (.str "name") := by with_unfolding_all rfl
  trivial
  exact fr_same hc rfl ⟨rfl, rfl⟩
end
end PG
namespace PG
open PySem PySem.Spec PyProof.Rows L2 DL
local macro_rules | `(tactic| trivial) => `(tactic| simp (config := { dsimp := false }) only [*, eq_self, DL.w_ok, DL.w_ex, DL.w_bind, DL.w_bindS, DL.o_some, DL.w_dC, DL.w_var, DL.w_op, DL.a_nil, DL.a_cons, DL.w_tup, DL.w_lst, DL.w_blt, DL.w_call, DL.w_callN, DL.w_or, DL.w_and, DL.w_not, DL.w_neg, DL.w_if, DL.w_chain, DL.t_tru, DL.t_tst, DL.t_and, DL.t_or, DL.t_not, DL.p_no, DL.p_some, DL.w_slc, DL.w_m1, DL.w_m0, DL.w_fld, DL.s_nil, DL.s_brk, DL.s_cnt, DL.s_retN, DL.s_raise, DL.s_seq, DL.s_ret, DL.s_exp, DL.s_if, DL.s_set, DL.s_new, DL.s_cel, DL.s_retC, DL.s_par, DL.s_asg, DL.e_add, DL.e_sub, DL.e_mulR, DL.e_mulL, DL.e_modS, DL.e_divS, DL.e_pow, DL.e_lt, DL.e_le, DL.e_gt, DL.e_ge, DL.e_is, DL.e_isN, DL.e_eqI, DL.e_neI, DL.e_eqS, DL.e_neS, DL.h_bl, DL.h_int, DL.h_non, DL.b_bl, DL.i_int, DL.s_str, DL.l_lst, DL.q_lst, DL.q_tup, DL.c_lst, DL.c_seq, DL.c_lis, DL.x_cel, DL.x_lst, DL.x_tup, DL.at_nn, DL.ix_in, DL.p_cel, DL.e_mulIf, DL.e_mulM, DL.t_len, DL.t_intB, DL.start, DL.s_setIx, DL.s_for, DL.i_rng, DL.i_rng2, DL.w_lc, DL.r_one, DL.s_app, DL.g_cel, DL.w_dct0, DL.w_meth, DL.isC_obj, DL.w_make, DL.w_pick, DL.pick_cons, DL.pick_nil, DL.w_own, DL.w_ne, DL.w_obS, DL.cls_obj, DL.fld_obj, DL.w_fmt, DL.w_fs, DL.w_fsNil, DL.w_fsCons, DL.w_isT, DL.w_revA, DL.s_try, DL.s_raiseI, DL.s_tryP, DL.s_endX, DL.w_isXT, DL.i_any, DL.ia_tup, DL.ia_str, DL.ia_lst, DL.ia_scr, DL.ia_cel, DL.gl_glo, DL.w_callA, DL.s_tryN, DL.s_never, DL.s_fld, DL.w_listN, DL.g_seq, DL.g_cons, DL.g_nil, DL.g_nm, DL.t_yes, DL.wipe_cons, DL.wipe_nil, DL.nn_non, DL.nn_int, DL.nn_str, DL.nn_bl, DL.nn_tup, DL.nn_lst, DL.w_fmR, DL.w_owns, DL.w_nes, DL.w_obSs, DL.w_meths, List.map_cons, List.map_nil, List.length_cons, List.length_nil, List.cons_append, List.nil_append, List.append_nil, List.drop_zero, List.drop_nil, List.drop_succ_cons, List.getElem?_cons_zero, List.getElem?_cons_succ, List.set_cons_zero, List.set_cons_succ, List.replicate_succ, List.replicate_zero, Option.join_some, Option.map_some, if_true, if_false, Bool.not_true, Bool.not_false, true_and, and_true, Nat.reduceAdd, Nat.reduceSub, Nat.reduceLeDiff, decide_true, decide_false, Bool.false_eq_true, Option.bind_some, Int.reduceToNat, List.getElem?_set_self, Int.reduceLT, Int.reduceLE, Int.reduceNeg, Int.reduceSub, Int.reduceAdd, Int.reduceMul, Int.reducePow, Nat.reduceLT, Int.reduceEq, ite_self, c_blk, f_top, f_left, f_bottom, f_right, is_has, is_size, PG.dfl_Block_init__, PG.dfl_Block_size, PG.dfl_Block_str___k22, PG.dfl_block_of_k22, PG.dfl_by_ends_k22, PG.dfl_column_text, PG.dfl_count_of, PG.dfl_is_columns, PG.dfl_is_rows, PG.dfl_letters_ahead, PG.dfl_number_of, PG.dfl_numbers_beside, PG.dfl_parted, PG.dfl_row_text])
section
variable {μ : List M} {d e : D} {i j : Int} {x : Str} {l : List D} {b c : Blk} {o : Option Int}
theorem x_ends_k22 {r0 r1 c0 c1 : Str} (hc : Cln μ) (hk : b.Ok) (hs : b.Sm) (h0 : r0.length ≤ 1000) (h1 : r1.length ≤ 1000) (h2 : c0.length ≤ 1000) (h3 : c1.length ≤ 1000) :
    G_by_ends_k22 [blkD b, .lst [.str r0, .str r1], .lst [.str c0, .str c1], .glo "letters_ahead"] μ = .ok (.str (endsS b r0 r1 c0 c1)) μ := by
  apply eq_ok
  unfold G_by_ends_k22
  refine wo_fn rfl ?_
  unfold D_by_ends_k22
  have a1 := x_isR (b := b) hc
  have a2 := x_isC (b := b) hc
  have a3 := x_size hc hk hs
  have a4 := x_ahead (r := r0) (c := c0) hc (by omega)
  have a5 := x_ahead (r := r1) (c := c1) hc (by omega)
  have L := str_len_app
  have L1 := col_len
  have p1 : opAdd μ (.str r0) (.str ":") = some (.str (r0 ++ ":")) := add_s (by rw [L1]; omega)
  have p2 : opAdd μ (.str (r0 ++ ":")) (.str r1) = some (.str (r0 ++ ":" ++ r1)) := add_s (by rw [L, L1]; omega)
  have p3 : opAdd μ (.str c0) (.str ":") = some (.str (c0 ++ ":")) := add_s (by rw [L1]; omega)
  have p4 : opAdd μ (.str (c0 ++ ":")) (.str c1) = some (.str (c0 ++ ":" ++ c1)) := add_s (by rw [L, L1]; omega)
  have p5 : opAdd μ (.str (c0 ++ r0)) (.str ":") = some (.str (c0 ++ r0 ++ ":")) := add_s (by rw [L, L1]; omega)
  have p6 : opAdd μ (.str (c0 ++ r0 ++ ":")) (.str (c1 ++ r1)) = some (.str (c0 ++ r0 ++ ":" ++ (c1 ++ r1))) := add_s (by rw [L, L, L, L1]; omega)
  have g1 : ∀ e4 : Option D, gloOf [some (blkD b), some (.lst [.str r0, .str r1]), some (.lst [.str c0, .str c1]), some (.glo "letters_ahead"), e4][3]? = some "letters_ahead" := fun _ => rfl
  have g2 : ∀ cs, candOf "letters_ahead" (("letters_ahead", 2, G_letters_ahead) :: cs) = some (2, G_letters_ahead) := fun cs => cand_la
  unfold endsS
  clear L L1
  cases k1 : isR b with
  | true =>
    trivial
    refine fr_same hc rfl ?_
    exact ⟨rfl, rfl⟩
  | false =>
    cases k2 : isCo b with
    | true =>
      trivial
      refine fr_same hc rfl ?_
      exact ⟨rfl, rfl⟩
    | false =>
      have q1 : opEq μ (opt (sizeB b)) (.int 1) = some (.bl (decide (sizeB b = some 1))) := by
        cases sizeB b with
        | none => rfl
        | some n =>
          show some (D.bl (n == 1)) = _
          by_cases h : n = 1
          · subst h; rfl
          · simp [h]
      by_cases k3 : sizeB b = some 1
      · rw [decide_eq_true k3] at q1
        have k4 : (sizeB b = some 1) = True := eq_true k3
        clear k3
        trivial
        refine fr_same hc rfl ?_
        exact ⟨rfl, rfl⟩
      · rw [decide_eq_false k3] at q1
        trivial
        refine fr_same hc rfl ?_
        exact ⟨rfl, rfl⟩
end
open PySem PySem.Spec PyProof.Rows L2 DL
local macro_rules | `(tactic| trivial) => `(tactic| simp (config := { dsimp := false }) only [*, eq_self, DL.w_ok, DL.w_ex, DL.w_bind, DL.w_bindS, DL.o_some, DL.w_dC, DL.w_var, DL.w_op, DL.a_nil, DL.a_cons, DL.w_tup, DL.w_lst, DL.w_blt, DL.w_call, DL.w_callN, DL.w_or, DL.w_and, DL.w_not, DL.w_neg, DL.w_if, DL.w_chain, DL.t_tru, DL.t_tst, DL.t_and, DL.t_or, DL.t_not, DL.p_no, DL.p_some, DL.w_slc, DL.w_m1, DL.w_m0, DL.w_fld, DL.s_nil, DL.s_brk, DL.s_cnt, DL.s_retN, DL.s_raise, DL.s_seq, DL.s_ret, DL.s_exp, DL.s_if, DL.s_set, DL.s_new, DL.s_cel, DL.s_retC, DL.s_par, DL.s_asg, DL.e_add, DL.e_sub, DL.e_mulR, DL.e_mulL, DL.e_modS, DL.e_divS, DL.e_pow, DL.e_lt, DL.e_le, DL.e_gt, DL.e_ge, DL.e_is, DL.e_isN, DL.e_eqI, DL.e_neI, DL.e_eqS, DL.e_neS, DL.h_bl, DL.h_int, DL.h_non, DL.b_bl, DL.i_int, DL.s_str, DL.l_lst, DL.q_lst, DL.q_tup, DL.c_lst, DL.c_seq, DL.c_lis, DL.x_cel, DL.x_lst, DL.x_tup, DL.at_nn, DL.ix_in, DL.p_cel, DL.e_mulIf, DL.e_mulM, DL.t_len, DL.t_intB, DL.start, DL.s_setIx, DL.s_for, DL.i_rng, DL.i_rng2, DL.w_lc, DL.r_one, DL.s_app, DL.g_cel, DL.w_dct0, DL.w_meth, DL.isC_obj, DL.w_make, DL.w_pick, DL.pick_cons, DL.pick_nil, DL.w_own, DL.w_ne, DL.w_obS, DL.cls_obj, DL.fld_obj, DL.w_fmt, DL.w_fs, DL.w_fsNil, DL.w_fsCons, DL.w_isT, DL.w_revA, DL.s_try, DL.s_raiseI, DL.s_tryP, DL.s_endX, DL.w_isXT, DL.i_any, DL.ia_tup, DL.ia_str, DL.ia_lst, DL.ia_scr, DL.ia_cel, DL.gl_glo, DL.w_callA, DL.s_tryN, DL.s_never, DL.s_fld, DL.w_listN, DL.g_seq, DL.g_cons, DL.g_nil, DL.g_nm, DL.t_yes, DL.wipe_cons, DL.wipe_nil, DL.nn_non, DL.nn_int, DL.nn_str, DL.nn_bl, DL.nn_tup, DL.nn_lst, DL.w_fmR, DL.w_owns, DL.w_nes, DL.w_obSs, DL.w_meths, List.map_cons, List.map_nil, List.length_cons, List.length_nil, List.cons_append, List.nil_append, List.append_nil, List.drop_zero, List.drop_nil, List.drop_succ_cons, List.getElem?_cons_zero, List.getElem?_cons_succ, List.set_cons_zero, List.set_cons_succ, List.replicate_succ, List.replicate_zero, Option.join_some, Option.map_some, if_true, if_false, Bool.not_true, Bool.not_false, true_and, and_true, Nat.reduceAdd, Nat.reduceSub, Nat.reduceLeDiff, decide_true, decide_false, Bool.false_eq_true, Option.bind_some, Int.reduceToNat, List.getElem?_set_self, Int.reduceLT, Int.reduceLE, Int.reduceNeg, Int.reduceSub, Int.reduceAdd, Int.reduceMul, Int.reducePow, Nat.reduceLT, Int.reduceEq, ite_self, t_isS, c_blk, Option.isSome, Option.getD, opt_none', opt_some', PG.dfl_Block_init__, PG.dfl_Block_size, PG.dfl_Block_str___k22, PG.dfl_block_of_k22, PG.dfl_by_ends_k22, PG.dfl_column_text, PG.dfl_count_of, PG.dfl_is_columns, PG.dfl_is_rows, PG.dfl_letters_ahead, PG.dfl_number_of, PG.dfl_numbers_beside, PG.dfl_parted, PG.dfl_row_text])
open PySem PySem.Spec PyProof.Rows L2 DL
end PG
namespace PG
open PySem PySem.Spec PyProof.Rows L2 DL
/-! names -/
def mkB (a b : Bool) : D := .tup [.bl a, .bl b]
structure Nm where
  b : Blk
  u : Bool
  d : Bool
  l : Bool
  r : Bool
def nNs : List Str := ["block", "rows", "columns"]
def nmD (n : Nm) : D := .obj "Name" nNs [blkD n.b, mkB n.u n.d, mkB n.l n.r]
def mayB (a b stands : Bool) (last : Option Int) (one : Bool) : Bool := if (a && !stands) || (b && (!stands || last.isNone)) then false else !one || (a == b)
def one1 (b : Blk) : Bool := decide (sizeB b = some 1)
structure Nm.Ok (n : Nm) : Prop where
  b : n.b.Fg
  rows : mayB n.u n.d (!isCo n.b) n.b.b (one1 n.b) = true
  cols : mayB n.l n.r (!isR n.b) n.b.r (one1 n.b) = true
section
variable {μ m : List M} {b c : Blk} {n : Nm} {o : Option Int}
theorem isB_bl' {b : Bool} : bIsU (.inl "bool") m [.bl b, .ty "bool"] = some (.bl true) := by with_unfolding_all rfl
theorem isT_mk {a b : Bool} : bIsU (.inl "tuple") m [mkB a b, .ty "tuple"] = some (.bl true) := by with_unfolding_all rfl
theorem mk0 {a b : Bool} : opIx m (mkB a b) (.int 0) = some (.bl a) := rfl
theorem mk1 {a b : Bool} : opIx m (mkB a b) (.int 1) = some (.bl b) := rfl
theorem is_optN' : opIs m (opt o) .non = some (.bl o.isNone) := by cases o <;> rfl
end
local macro_rules | `(tactic| trivial) => `(tactic| simp (config := { dsimp := false }) only [*, eq_self, DL.w_ok, DL.w_ex, DL.w_bind, DL.w_bindS, DL.o_some, DL.w_dC, DL.w_var, DL.w_op, DL.a_nil, DL.a_cons, DL.w_tup, DL.w_lst, DL.w_blt, DL.w_call, DL.w_callN, DL.w_or, DL.w_and, DL.w_not, DL.w_neg, DL.w_if, DL.w_chain, DL.t_tru, DL.t_tst, DL.t_and, DL.t_or, DL.t_not, DL.p_no, DL.p_some, DL.w_slc, DL.w_m1, DL.w_m0, DL.w_fld, DL.s_nil, DL.s_brk, DL.s_cnt, DL.s_retN, DL.s_raise, DL.s_seq, DL.s_ret, DL.s_exp, DL.s_if, DL.s_set, DL.s_new, DL.s_cel, DL.s_retC, DL.s_par, DL.s_asg, DL.e_add, DL.e_sub, DL.e_mulR, DL.e_mulL, DL.e_modS, DL.e_divS, DL.e_pow, DL.e_lt, DL.e_le, DL.e_gt, DL.e_ge, DL.e_is, DL.e_isN, DL.e_eqI, DL.e_neI, DL.e_eqS, DL.e_neS, DL.h_bl, DL.h_int, DL.h_non, DL.b_bl, DL.i_int, DL.s_str, DL.l_lst, DL.q_lst, DL.q_tup, DL.c_lst, DL.c_seq, DL.c_lis, DL.x_cel, DL.x_lst, DL.x_tup, DL.at_nn, DL.ix_in, DL.p_cel, DL.e_mulIf, DL.e_mulM, DL.t_len, DL.t_intB, DL.start, DL.s_setIx, DL.s_for, DL.i_rng, DL.i_rng2, DL.w_lc, DL.r_one, DL.s_app, DL.g_cel, DL.w_dct0, DL.w_meth, DL.isC_obj, DL.w_make, DL.w_pick, DL.pick_cons, DL.pick_nil, DL.w_own, DL.w_ne, DL.w_obS, DL.cls_obj, DL.fld_obj, DL.w_fmt, DL.w_fs, DL.w_fsNil, DL.w_fsCons, DL.w_isT, DL.w_revA, DL.s_try, DL.s_raiseI, DL.s_tryP, DL.s_endX, DL.w_isXT, DL.i_any, DL.ia_tup, DL.ia_str, DL.ia_lst, DL.ia_scr, DL.ia_cel, DL.gl_glo, DL.w_callA, DL.s_tryN, DL.s_never, DL.s_fld, DL.w_listN, DL.g_seq, DL.g_cons, DL.g_nil, DL.g_nm, DL.t_yes, DL.wipe_cons, DL.wipe_nil, DL.nn_non, DL.nn_int, DL.nn_str, DL.nn_bl, DL.nn_tup, DL.nn_lst, DL.w_fmR, DL.w_owns, DL.w_nes, DL.w_obSs, DL.w_meths, List.map_cons, List.map_nil, List.length_cons, List.length_nil, List.cons_append, List.nil_append, List.append_nil, List.drop_zero, List.drop_nil, List.drop_succ_cons, List.getElem?_cons_zero, List.getElem?_cons_succ, List.set_cons_zero, List.set_cons_succ, List.replicate_succ, List.replicate_zero, Option.join_some, Option.map_some, if_true, if_false, Bool.not_true, Bool.not_false, true_and, and_true, Nat.reduceAdd, Nat.reduceSub, Nat.reduceLeDiff, decide_true, decide_false, Bool.false_eq_true, Option.bind_some, Int.reduceToNat, List.getElem?_set_self, Int.reduceLT, Int.reduceLE, Int.reduceNeg, Int.reduceSub, Int.reduceAdd, Int.reduceMul, Int.reducePow, Nat.reduceLT, Int.reduceEq, ite_self, isB_bl', isT_mk, mk0, mk1, is_optN', Bool.not_true, Bool.not_false, PG.dfl_Block_size, PG.dfl_Name_init__, PG.dfl_Name_shown, PG.dfl_are_marks, PG.dfl_by_ends_k22, PG.dfl_checked_cell, PG.dfl_checked_manner, PG.dfl_column_text, PG.dfl_far_text, PG.dfl_fast_text, PG.dfl_is_cell, PG.dfl_is_columns, PG.dfl_is_rows, PG.dfl_letters_of, PG.dfl_may_be, PG.dfl_row_text])
section
variable {μ m : List M} {b c : Blk} {n : Nm} {o : Option Int}
theorem x_marks {a b : Bool} (hc : Cln μ) : G_are_marks [mkB a b] μ = .ok (.bl true) μ := by
  apply eq_ok
  unfold G_are_marks
  refine wo_fn rfl ?_
  unfold D_are_marks
  have sq : seqOf μ (mkB a b) = some [.bl a, .bl b] := rfl
  have it : itAny μ (mkB a b) = some ([.bl a, .bl b], fun _ => True) := rfl
  have ln : bLen μ [mkB a b] = some (.int 2) := rfl
  have al : bAll μ [.lst [.bl true, .bl true]] = some (.bl true) := rfl
  have w := @w_lcCons
  have w' := @w_lcNil
  trivial
  exact fr_same hc rfl ⟨rfl, rfl⟩
theorem x_mayB {a b st one : Bool} (hc : Cln μ) : G_may_be [mkB a b, .bl st, opt o, .bl one] μ = .ok (.bl (mayB a b st o one)) μ := by
  apply eq_ok
  unfold G_may_be
  refine wo_fn rfl ?_
  unfold D_may_be
  have eb : ∀ a b : Bool, opEq μ (.bl a) (.bl b) = some (.bl (a == b)) := fun _ _ => rfl
  have fin : ∀ x y : Bool, x = y → FR μ.length μ (.bl x) (fun z m' => z = .bl y ∧ m' = μ) := fun x y e => by rw [e]; exact fr_same hc rfl ⟨rfl, rfl⟩
  unfold mayB
  generalize ho : o.isNone = on
  have is_ : opIs μ (opt o) .non = some (.bl on) := by rw [is_optN', ho]
  cases a <;> cases b <;> cases st <;> cases one <;> cases on <;> trivial <;> exact fin _ _ rfl
end
local macro_rules | `(tactic| trivial) => `(tactic| simp (config := { dsimp := false }) only [*, eq_self, DL.w_ok, DL.w_ex, DL.w_bind, DL.w_bindS, DL.o_some, DL.w_dC, DL.w_var, DL.w_op, DL.a_nil, DL.a_cons, DL.w_tup, DL.w_lst, DL.w_blt, DL.w_call, DL.w_callN, DL.w_or, DL.w_and, DL.w_not, DL.w_neg, DL.w_if, DL.w_chain, DL.t_tru, DL.t_tst, DL.t_and, DL.t_or, DL.t_not, DL.p_no, DL.p_some, DL.w_slc, DL.w_m1, DL.w_m0, DL.w_fld, DL.s_nil, DL.s_brk, DL.s_cnt, DL.s_retN, DL.s_raise, DL.s_seq, DL.s_ret, DL.s_exp, DL.s_if, DL.s_set, DL.s_new, DL.s_cel, DL.s_retC, DL.s_par, DL.s_asg, DL.e_add, DL.e_sub, DL.e_mulR, DL.e_mulL, DL.e_modS, DL.e_divS, DL.e_pow, DL.e_lt, DL.e_le, DL.e_gt, DL.e_ge, DL.e_is, DL.e_isN, DL.e_eqI, DL.e_neI, DL.e_eqS, DL.e_neS, DL.h_bl, DL.h_int, DL.h_non, DL.b_bl, DL.i_int, DL.s_str, DL.l_lst, DL.q_lst, DL.q_tup, DL.c_lst, DL.c_seq, DL.c_lis, DL.x_cel, DL.x_lst, DL.x_tup, DL.at_nn, DL.ix_in, DL.p_cel, DL.e_mulIf, DL.e_mulM, DL.t_len, DL.t_intB, DL.start, DL.s_setIx, DL.s_for, DL.i_rng, DL.i_rng2, DL.w_lc, DL.r_one, DL.s_app, DL.g_cel, DL.w_dct0, DL.w_meth, DL.isC_obj, DL.w_make, DL.w_pick, DL.pick_cons, DL.pick_nil, DL.w_own, DL.w_ne, DL.w_obS, DL.cls_obj, DL.fld_obj, DL.w_fmt, DL.w_fs, DL.w_fsNil, DL.w_fsCons, DL.w_isT, DL.w_revA, DL.s_try, DL.s_raiseI, DL.s_tryP, DL.s_endX, DL.w_isXT, DL.i_any, DL.ia_tup, DL.ia_str, DL.ia_lst, DL.ia_scr, DL.ia_cel, DL.gl_glo, DL.w_callA, DL.s_tryN, DL.s_never, DL.s_fld, DL.w_listN, DL.g_seq, DL.g_cons, DL.g_nil, DL.g_nm, DL.t_yes, DL.wipe_cons, DL.wipe_nil, DL.nn_non, DL.nn_int, DL.nn_str, DL.nn_bl, DL.nn_tup, DL.nn_lst, DL.w_fmR, DL.w_owns, DL.w_nes, DL.w_obSs, DL.w_meths, List.map_cons, List.map_nil, List.length_cons, List.length_nil, List.cons_append, List.nil_append, List.append_nil, List.drop_zero, List.drop_nil, List.drop_succ_cons, List.getElem?_cons_zero, List.getElem?_cons_succ, List.set_cons_zero, List.set_cons_succ, List.replicate_succ, List.replicate_zero, Option.join_some, Option.map_some, if_true, if_false, Bool.not_true, Bool.not_false, true_and, and_true, Nat.reduceAdd, Nat.reduceSub, Nat.reduceLeDiff, decide_true, decide_false, Bool.false_eq_true, Option.bind_some, Int.reduceToNat, List.getElem?_set_self, Int.reduceLT, Int.reduceLE, Int.reduceNeg, Int.reduceSub, Int.reduceAdd, Int.reduceMul, Int.reducePow, Nat.reduceLT, Int.reduceEq, ite_self, isB_bl', isT_mk, mk0, mk1, is_optN', Bool.not_true, Bool.not_false, c_blk, f_top, f_left, f_bottom, f_right, is_size, is_has, PG.dfl_Block_size, PG.dfl_Name_init__, PG.dfl_Name_shown, PG.dfl_are_marks, PG.dfl_by_ends_k22, PG.dfl_checked_cell, PG.dfl_checked_manner, PG.dfl_column_text, PG.dfl_far_text, PG.dfl_fast_text, PG.dfl_is_cell, PG.dfl_is_columns, PG.dfl_is_rows, PG.dfl_letters_of, PG.dfl_may_be, PG.dfl_row_text])
section
variable {μ m : List M} {b c : Blk} {n : Nm} {o : Option Int}
theorem size_is1 {b : Blk} : opEq m (opt (sizeB b)) (.int 1) = some (.bl (one1 b)) := by
  unfold one1
  cases sizeB b with
  | none => rfl
  | some k =>
    show some (D.bl (k == 1)) = _
    by_cases h : k = 1
    · subst h; rfl
    · simp [h]
theorem x_name (hc : Cln μ) (hn : n.Ok) : makeD "Name" 4 G_Name_init__ [blkD n.b, mkB n.u n.d, mkB n.l n.r] μ = .ok (nmD n) μ := by
  have hc2 : Cln (μ ++ [M.obj "Name" [] []]) := hc.snoc rfl
  refine makeD_ok hc rfl (by show (clean 0 (blkD n.b) && true) = true; rw [clean_blk]; rfl) ?_
  apply eq_ok
  unfold G_Name_init__
  refine wo_fn rfl ?_
  unfold D_Name_init__
  have i1 : ∀ a b, opIs (μ ++ [M.obj "Name" [] []]) (mkB a b) .non = some (.bl false) := fun _ _ => rfl
  have i2 := isBlk (μ := μ ++ [M.obj "Name" [] []]) (b := n.b)
  have a1 := x_marks (a := n.u) (b := n.d) hc2
  have a2 := x_marks (a := n.l) (b := n.r) hc2
  have a3 := x_size hc2 hn.b.ok hn.b.sm
  have a4 := x_isC (b := n.b) hc2
  have a5 := x_isR (b := n.b) hc2
  have a6 := x_mayB (a := n.u) (b := n.d) (st := !isCo n.b) (o := n.b.b) (one := one1 n.b) hc2
  have a7 := x_mayB (a := n.l) (b := n.r) (st := !isR n.b) (o := n.b.r) (one := one1 n.b) hc2
  rw [hn.rows] at a6
  rw [hn.cols] at a7
  have e1 := @size_is1 (μ ++ [M.obj "Name" [] []]) n.b
  have f1 : celO (μ ++ [M.obj "Name" [] []]) (.cel μ.length) = some (μ.length, ("Name" : Str), ([] : List Str), ([] : List D)) := co_cel List.getElem?_concat_length
  have st : ∀ {a b : M}, (μ ++ [a]).set μ.length b = μ ++ [b] := fun {a b} => by rw [List.set_append_right _ _ (Nat.le_refl _), Nat.sub_self]; rfl
  have f2 : ∀ {ns l}, celO (μ ++ [M.obj "Name" ns l]) (.cel μ.length) = some (μ.length, ("Name" : Str), ns, l) := co_cel List.getElem?_concat_length
  have p1 : putD "block" (blkD n.b) [] [] = ((["block"] : List Str), ([blkD n.b] : List D)) := rfl
  have p2 : putD "rows" (mkB n.u n.d) ["block"] [blkD n.b] = ((["block", "rows"] : List Str), ([blkD n.b, mkB n.u n.d] : List D)) := by with_unfolding_all rfl
  have p3 : putD "columns" (mkB n.l n.r) ["block", "rows"] [blkD n.b, mkB n.u n.d] = ((["block", "rows", "columns"] : List Str), ([blkD n.b, mkB n.u n.d, mkB n.l n.r] : List D)) := by with_unfolding_all rfl
  trivial
  refine ⟨rfl, hc.snoc (by show (clean 0 (blkD n.b) && true) = true; rw [clean_blk]; rfl), rfl, ?_⟩
  rw [List.take_of_length_le (by rw [List.length_append, List.length_append]; exact Nat.le_refl _)]
  rfl
/-! the name's text -/
def dol (a : Bool) (x : Str) : Str := if a = true then "$" ++ x else x
def nameS (n : Nm) : Str := endsS n.b (dol n.u (rowS (some n.b.t))) (dol n.d (rowS n.b.b)) (dol n.l (colS (some n.b.l))) (dol n.r (colS n.b.r))
theorem dol_len {a : Bool} {x : Str} : (dol a x).length ≤ x.length + 1 := by
  unfold dol
  cases a with
  | true => rw [if_pos rfl, str_len_app]; show 1 + _ ≤ _; omega
  | false => rw [if_neg Bool.false_ne_true]; omega
theorem x_fast {a : Bool} {x : Str} (hc : Cln μ) (h : x.length ≤ 1000) : G_fast_text [.str x, .bl a] μ = .ok (.str (dol a x)) μ := by
  apply eq_ok
  unfold G_fast_text
  refine wo_fn rfl ?_
  unfold D_fast_text dol
  have p1 : opAdd μ (.str "$") (.str x) = some (.str (("$" : Str) ++ x)) := add_s (by show 1 + _ ≤ _; omega)
  cases a
  · trivial
    exact fr_same hc rfl ⟨rfl, rfl⟩
  · trivial
    exact fr_same hc rfl ⟨rfl, rfl⟩
theorem c_nm : clsAt m (nmD n) = some ("Name" : Str) := rfl
theorem f_nblock : fldAt m "block" (nmD n) = some (blkD n.b) := by with_unfolding_all rfl
theorem f_nrows : fldAt m "rows" (nmD n) = some (mkB n.u n.d) := by with_unfolding_all rfl
theorem f_ncols : fldAt m "columns" (nmD n) = some (mkB n.l n.r) := by with_unfolding_all rfl
/-- a base: None, or a cell -/
def baseD : Option (Int × Int) → D
  | none => .non
  | some p => .tup [.int p.1, .int p.2]
def baseC : Option (Int × Int) → Int × Int
  | none => (1, 1)
  | some p => p
def BOk (o : Option (Int × Int)) : Prop := ∀ p, o = some p → 1 ≤ p.1 ∧ 1 ≤ p.2
theorem x_checkOk {i j : Int} (hc : Cln μ) (hi : 1 ≤ i) (hj : 1 ≤ j) : G_checked_cell [.tup [.int i, .int j]] μ = .ok .non μ := by
  have h : cellD (.tup [.int i, .int j]) = true := by
    show (true && (decide (1 ≤ i) && (decide (1 ≤ j) && true))) = true
    rw [decide_eq_true hi, decide_eq_true hj]; rfl
  have := x_checked (d := .tup [.int i, .int j]) hc rfl
  rw [h] at this
  exact this
theorem x_manner {o : Option (Int × Int)} {k : Str} (hc : Cln μ) (hk : k = "letters" ∨ k = "numbers") (ho : BOk o) : G_checked_manner [.str k, baseD o] μ = .ok (.tup [.int (baseC o).1, .int (baseC o).2]) μ := by
  apply eq_ok
  unfold G_checked_manner
  refine wo_fn rfl ?_
  unfold D_checked_manner
  have e1 : opIn2 true μ (.str k) (.tup [.str "letters", .str "numbers"]) = some (.bl false) := by
    rcases hk with rfl | rfl <;> with_unfolding_all rfl
  cases o with
  | none =>
    have i1 : opIs μ (baseD none) .non = some (.bl true) := rfl
    have c1 := x_checkOk (i := 1) (j := 1) hc (by decide) (by decide)
    clear hk
    trivial
    exact fr_same hc rfl ⟨rfl, rfl⟩
  | some p =>
    have i1 : opIs μ (baseD (some p)) .non = some (.bl false) := rfl
    have c1 : G_checked_cell [baseD (some p)] μ = .ok .non μ := x_checkOk hc (ho p rfl).1 (ho p rfl).2
    clear hk
    trivial
    exact fr_same hc rfl ⟨rfl, rfl⟩
end
local macro_rules | `(tactic| trivial) => `(tactic| simp (config := { dsimp := false }) only [*, eq_self, DL.w_ok, DL.w_ex, DL.w_bind, DL.w_bindS, DL.o_some, DL.w_dC, DL.w_var, DL.w_op, DL.a_nil, DL.a_cons, DL.w_tup, DL.w_lst, DL.w_blt, DL.w_call, DL.w_callN, DL.w_or, DL.w_and, DL.w_not, DL.w_neg, DL.w_if, DL.w_chain, DL.t_tru, DL.t_tst, DL.t_and, DL.t_or, DL.t_not, DL.p_no, DL.p_some, DL.w_slc, DL.w_m1, DL.w_m0, DL.w_fld, DL.s_nil, DL.s_brk, DL.s_cnt, DL.s_retN, DL.s_raise, DL.s_seq, DL.s_ret, DL.s_exp, DL.s_if, DL.s_set, DL.s_new, DL.s_cel, DL.s_retC, DL.s_par, DL.s_asg, DL.e_add, DL.e_sub, DL.e_mulR, DL.e_mulL, DL.e_modS, DL.e_divS, DL.e_pow, DL.e_lt, DL.e_le, DL.e_gt, DL.e_ge, DL.e_is, DL.e_isN, DL.e_eqI, DL.e_neI, DL.e_eqS, DL.e_neS, DL.h_bl, DL.h_int, DL.h_non, DL.b_bl, DL.i_int, DL.s_str, DL.l_lst, DL.q_lst, DL.q_tup, DL.c_lst, DL.c_seq, DL.c_lis, DL.x_cel, DL.x_lst, DL.x_tup, DL.at_nn, DL.ix_in, DL.p_cel, DL.e_mulIf, DL.e_mulM, DL.t_len, DL.t_intB, DL.start, DL.s_setIx, DL.s_for, DL.i_rng, DL.i_rng2, DL.w_lc, DL.r_one, DL.s_app, DL.g_cel, DL.w_dct0, DL.w_meth, DL.isC_obj, DL.w_make, DL.w_pick, DL.pick_cons, DL.pick_nil, DL.w_own, DL.w_ne, DL.w_obS, DL.cls_obj, DL.fld_obj, DL.w_fmt, DL.w_fs, DL.w_fsNil, DL.w_fsCons, DL.w_isT, DL.w_revA, DL.s_try, DL.s_raiseI, DL.s_tryP, DL.s_endX, DL.w_isXT, DL.i_any, DL.ia_tup, DL.ia_str, DL.ia_lst, DL.ia_scr, DL.ia_cel, DL.gl_glo, DL.w_callA, DL.s_tryN, DL.s_never, DL.s_fld, DL.w_listN, DL.g_seq, DL.g_cons, DL.g_nil, DL.g_nm, DL.t_yes, DL.wipe_cons, DL.wipe_nil, DL.nn_non, DL.nn_int, DL.nn_str, DL.nn_bl, DL.nn_tup, DL.nn_lst, DL.w_fmR, DL.w_owns, DL.w_nes, DL.w_obSs, DL.w_meths, List.map_cons, List.map_nil, List.length_cons, List.length_nil, List.cons_append, List.nil_append, List.append_nil, List.drop_zero, List.drop_nil, List.drop_succ_cons, List.getElem?_cons_zero, List.getElem?_cons_succ, List.set_cons_zero, List.set_cons_succ, List.replicate_succ, List.replicate_zero, Option.join_some, Option.map_some, if_true, if_false, Bool.not_true, Bool.not_false, true_and, and_true, Nat.reduceAdd, Nat.reduceSub, Nat.reduceLeDiff, decide_true, decide_false, Bool.false_eq_true, Option.bind_some, Int.reduceToNat, List.getElem?_set_self, Int.reduceLT, Int.reduceLE, Int.reduceNeg, Int.reduceSub, Int.reduceAdd, Int.reduceMul, Int.reducePow, Nat.reduceLT, Int.reduceEq, ite_self, mk0, mk1, c_nm, f_nblock, f_nrows, f_ncols, c_blk, f_top, f_left, f_bottom, f_right, PG.dfl_Block_size, PG.dfl_Name_init__, PG.dfl_Name_shown, PG.dfl_are_marks, PG.dfl_by_ends_k22, PG.dfl_checked_cell, PG.dfl_checked_manner, PG.dfl_column_text, PG.dfl_far_text, PG.dfl_fast_text, PG.dfl_is_cell, PG.dfl_is_columns, PG.dfl_is_rows, PG.dfl_letters_of, PG.dfl_may_be, PG.dfl_row_text])
section
variable {μ m : List M} {b c : Blk} {n : Nm}
theorem x_shownL {o : Option (Int × Int)} (hc : Cln μ) (hn : n.b.Fg) (ho : BOk o) : G_Name_shown [nmD n, .str "letters", baseD o] μ = .ok (.str (nameS n)) μ := by
  apply eq_ok
  unfold G_Name_shown
  refine wo_fn rfl ?_
  unfold D_Name_shown
  have a0 := x_manner (k := "letters") hc (.inl rfl) ho
  have e1 : opEq μ (.str "letters") (.str "letters") = some (.bl true) := by rw [e_eqS]; rfl
  obtain ⟨s1, s2, s3, s4⟩ := Blk.smt hn.ok hn.sm
  have b1 : G_row_text [.int n.b.t] μ = _ := x_row (o := some n.b.t) hc s1
  have b2 := x_row (o := n.b.b) hc s2
  have b3 : G_column_text [.int n.b.l] μ = _ := x_column (o := some n.b.l) hc s3
  have b4 := x_column (o := n.b.r) hc s4
  have l1 := rowS_len s1
  have l2 := rowS_len s2
  have l3 := colS_len s3
  have l4 := colS_len s4
  have d1 := x_fast (a := n.u) (x := rowS (some n.b.t)) hc (by omega)
  have d2 := x_fast (a := n.d) (x := rowS n.b.b) hc (by omega)
  have d3 := x_fast (a := n.l) (x := colS (some n.b.l)) hc (by omega)
  have d4 := x_fast (a := n.r) (x := colS n.b.r) hc (by omega)
  have g1 := @dol_len n.u (rowS (some n.b.t))
  have g2 := @dol_len n.d (rowS n.b.b)
  have g3 := @dol_len n.l (colS (some n.b.l))
  have g4 := @dol_len n.r (colS n.b.r)
  have be := x_ends_k22 (r0 := dol n.u (rowS (some n.b.t))) (r1 := dol n.d (rowS n.b.b)) (c0 := dol n.l (colS (some n.b.l))) (c1 := dol n.r (colS n.b.r)) hc hn.ok hn.sm (by omega) (by omega) (by omega) (by omega)
  have w := @w_lcCons
  have w' := @w_lcNil
  clear s1 s2 s3 s4 l1 l2 l3 l4 g1 g2 g3 g4
  trivial
  exact fr_same hc rfl ⟨rfl, rfl⟩
end
end PG
namespace PG
open PySem PySem.Spec PyProof.Rows L2 DL
end PG
namespace PG
open PySem PySem.Spec PyProof.Rows L2 DL
local macro_rules | `(tactic| trivial) => `(tactic| simp (config := { dsimp := false }) only [*, eq_self, DL.w_ok, DL.w_ex, DL.w_bind, DL.w_bindS, DL.o_some, DL.w_dC, DL.w_var, DL.w_op, DL.a_nil, DL.a_cons, DL.w_tup, DL.w_lst, DL.w_blt, DL.w_call, DL.w_callN, DL.w_or, DL.w_and, DL.w_not, DL.w_neg, DL.w_if, DL.w_chain, DL.t_tru, DL.t_tst, DL.t_and, DL.t_or, DL.t_not, DL.p_no, DL.p_some, DL.w_slc, DL.w_m1, DL.w_m0, DL.w_fld, DL.s_nil, DL.s_brk, DL.s_cnt, DL.s_retN, DL.s_raise, DL.s_seq, DL.s_ret, DL.s_exp, DL.s_if, DL.s_set, DL.s_new, DL.s_cel, DL.s_retC, DL.s_par, DL.s_asg, DL.e_add, DL.e_sub, DL.e_mulR, DL.e_mulL, DL.e_modS, DL.e_divS, DL.e_pow, DL.e_lt, DL.e_le, DL.e_gt, DL.e_ge, DL.e_is, DL.e_isN, DL.e_eqI, DL.e_neI, DL.e_eqS, DL.e_neS, DL.h_bl, DL.h_int, DL.h_non, DL.b_bl, DL.i_int, DL.s_str, DL.l_lst, DL.q_lst, DL.q_tup, DL.c_lst, DL.c_seq, DL.c_lis, DL.x_cel, DL.x_lst, DL.x_tup, DL.at_nn, DL.ix_in, DL.p_cel, DL.e_mulIf, DL.e_mulM, DL.t_len, DL.t_intB, DL.start, DL.s_setIx, DL.s_for, DL.i_rng, DL.i_rng2, DL.w_lc, DL.r_one, DL.s_app, DL.g_cel, DL.w_dct0, DL.w_meth, DL.isC_obj, DL.w_make, DL.w_pick, DL.pick_cons, DL.pick_nil, DL.w_own, DL.w_ne, DL.w_obS, DL.cls_obj, DL.fld_obj, DL.w_fmt, DL.w_fs, DL.w_fsNil, DL.w_fsCons, DL.w_isT, DL.w_revA, DL.s_try, DL.s_raiseI, DL.s_tryP, DL.s_endX, DL.w_isXT, DL.i_any, DL.ia_tup, DL.ia_str, DL.ia_lst, DL.ia_scr, DL.ia_cel, DL.gl_glo, DL.w_callA, DL.s_tryN, DL.s_never, DL.s_fld, DL.w_listN, DL.g_seq, DL.g_cons, DL.g_nil, DL.g_nm, DL.t_yes, DL.wipe_cons, DL.wipe_nil, DL.nn_non, DL.nn_int, DL.nn_str, DL.nn_bl, DL.nn_tup, DL.nn_lst, DL.w_fmR, DL.w_owns, DL.w_nes, DL.w_obSs, DL.w_meths, List.map_cons, List.map_nil, List.length_cons, List.length_nil, List.cons_append, List.nil_append, List.append_nil, List.drop_zero, List.drop_nil, List.drop_succ_cons, List.getElem?_cons_zero, List.getElem?_cons_succ, List.set_cons_zero, List.set_cons_succ, List.replicate_succ, List.replicate_zero, Option.join_some, Option.map_some, if_true, if_false, Bool.not_true, Bool.not_false, true_and, and_true, Nat.reduceAdd, Nat.reduceSub, Nat.reduceLeDiff, decide_true, decide_false, Bool.false_eq_true, Option.bind_some, Int.reduceToNat, List.getElem?_set_self, Int.reduceLT, Int.reduceLE, Int.reduceNeg, Int.reduceSub, Int.reduceAdd, Int.reduceMul, Int.reducePow, Nat.reduceLT, Int.reduceEq, ite_self, PG.dfl_marks_in])
end PG
namespace PG
open PySem PySem.Spec PyProof.Rows L2 DL
/-! a name's text, its marks struck -/
def stk (x : Str) : List Nat := (TL.tl x).filter (· != 36)
end PG
namespace PG
open PySem PySem.Spec PyProof.Rows L2 DL
theorem w_rep {y z : Str} {da : DE} {env : En} {μ : List M} {Q : D → List M → Prop} {X : XP} {k : Kt Q X} : WO (dRep y z da env μ) Q X k = WO (da env μ) (fun x m1 => OP (isS x) (fun s => OP (repD y z s) (fun d => Q d m1) ⟨⟩) ⟨⟩) X ⟨⟩ := by
  unfold dRep
  cases da env μ with
  | ok x m =>
    cases x with
    | str s =>
      show WO (match repD y z s with | some d => .ok d m | none => .stuck) Q X k = OP (repD y z s) (fun d => Q d m) ⟨⟩
      cases repD y z s <;> rfl
    | _ => rfl
  | ex _ _ _ _ => rfl
  | stuck => rfl
local macro_rules | `(tactic| trivial) => `(tactic| simp (config := { dsimp := false }) only [*, eq_self, DL.w_ok, DL.w_ex, DL.w_bind, DL.w_bindS, DL.o_some, DL.w_dC, DL.w_var, DL.w_op, DL.a_nil, DL.a_cons, DL.w_tup, DL.w_lst, DL.w_blt, DL.w_call, DL.w_callN, DL.w_or, DL.w_and, DL.w_not, DL.w_neg, DL.w_if, DL.w_chain, DL.t_tru, DL.t_tst, DL.t_and, DL.t_or, DL.t_not, DL.p_no, DL.p_some, DL.w_slc, DL.w_m1, DL.w_m0, DL.w_fld, DL.s_nil, DL.s_brk, DL.s_cnt, DL.s_retN, DL.s_raise, DL.s_seq, DL.s_ret, DL.s_exp, DL.s_if, DL.s_set, DL.s_new, DL.s_cel, DL.s_retC, DL.s_par, DL.s_asg, DL.e_add, DL.e_sub, DL.e_mulR, DL.e_mulL, DL.e_modS, DL.e_divS, DL.e_pow, DL.e_lt, DL.e_le, DL.e_gt, DL.e_ge, DL.e_is, DL.e_isN, DL.e_eqI, DL.e_neI, DL.e_eqS, DL.e_neS, DL.h_bl, DL.h_int, DL.h_non, DL.b_bl, DL.i_int, DL.s_str, DL.l_lst, DL.q_lst, DL.q_tup, DL.c_lst, DL.c_seq, DL.c_lis, DL.x_cel, DL.x_lst, DL.x_tup, DL.at_nn, DL.ix_in, DL.p_cel, DL.e_mulIf, DL.e_mulM, DL.t_len, DL.t_intB, DL.start, DL.s_setIx, DL.s_for, DL.i_rng, DL.i_rng2, DL.w_lc, DL.r_one, DL.s_app, DL.g_cel, DL.w_dct0, DL.w_meth, DL.isC_obj, DL.w_make, DL.w_pick, DL.pick_cons, DL.pick_nil, DL.w_own, DL.w_ne, DL.w_obS, DL.cls_obj, DL.fld_obj, DL.w_fmt, DL.w_fs, DL.w_fsNil, DL.w_fsCons, DL.w_isT, DL.w_revA, DL.s_try, DL.s_raiseI, DL.s_tryP, DL.s_endX, DL.w_isXT, DL.i_any, DL.ia_tup, DL.ia_str, DL.ia_lst, DL.ia_scr, DL.ia_cel, DL.gl_glo, DL.w_callA, DL.s_tryN, DL.s_never, DL.s_fld, DL.w_listN, DL.g_seq, DL.g_cons, DL.g_nil, DL.g_nm, DL.t_yes, DL.wipe_cons, DL.wipe_nil, DL.nn_non, DL.nn_int, DL.nn_str, DL.nn_bl, DL.nn_tup, DL.nn_lst, DL.w_fmR, DL.w_owns, DL.w_nes, DL.w_obSs, DL.w_meths, List.map_cons, List.map_nil, List.length_cons, List.length_nil, List.cons_append, List.nil_append, List.append_nil, List.drop_zero, List.drop_nil, List.drop_succ_cons, List.getElem?_cons_zero, List.getElem?_cons_succ, List.set_cons_zero, List.set_cons_succ, List.replicate_succ, List.replicate_zero, Option.join_some, Option.map_some, if_true, if_false, Bool.not_true, Bool.not_false, true_and, and_true, Nat.reduceAdd, Nat.reduceSub, Nat.reduceLeDiff, decide_true, decide_false, Bool.false_eq_true, Option.bind_some, Int.reduceToNat, List.getElem?_set_self, Int.reduceLT, Int.reduceLE, Int.reduceNeg, Int.reduceSub, Int.reduceAdd, Int.reduceMul, Int.reducePow, Nat.reduceLT, Int.reduceEq, ite_self, mk0, mk1, t_isS, w_rep, PG.dfl_Block_size, PG.dfl_Name_init__, PG.dfl_are_marks, PG.dfl_block_of_k22, PG.dfl_is_columns, PG.dfl_is_rows, PG.dfl_marks_in, PG.dfl_may_be, PG.dfl_read_letters])
theorem clean_nm (n : Nm) : clean 0 (nmD n) = true := by
  show (clean 0 (blkD n.b) && true) = true
  rw [clean_blk]; rfl
end PG
namespace PG
open PySem PySem.Spec PyProof.Rows L2 DL
end PG
namespace PG
open PySem PySem.Spec PyProof.Rows L2 DL
section
variable {μ m : List M} {n : Nm}
theorem is_shown : isC "Name" "shown" m (nmD n) := ⟨rfl, by with_unfolding_all rfl⟩
end
local macro_rules | `(tactic| trivial) => `(tactic| simp (config := { dsimp := false }) only [*, eq_self, DL.w_ok, DL.w_ex, DL.w_bind, DL.w_bindS, DL.o_some, DL.w_dC, DL.w_var, DL.w_op, DL.a_nil, DL.a_cons, DL.w_tup, DL.w_lst, DL.w_blt, DL.w_call, DL.w_callN, DL.w_or, DL.w_and, DL.w_not, DL.w_neg, DL.w_if, DL.w_chain, DL.t_tru, DL.t_tst, DL.t_and, DL.t_or, DL.t_not, DL.p_no, DL.p_some, DL.w_slc, DL.w_m1, DL.w_m0, DL.w_fld, DL.s_nil, DL.s_brk, DL.s_cnt, DL.s_retN, DL.s_raise, DL.s_seq, DL.s_ret, DL.s_exp, DL.s_if, DL.s_set, DL.s_new, DL.s_cel, DL.s_retC, DL.s_par, DL.s_asg, DL.e_add, DL.e_sub, DL.e_mulR, DL.e_mulL, DL.e_modS, DL.e_divS, DL.e_pow, DL.e_lt, DL.e_le, DL.e_gt, DL.e_ge, DL.e_is, DL.e_isN, DL.e_eqI, DL.e_neI, DL.e_eqS, DL.e_neS, DL.h_bl, DL.h_int, DL.h_non, DL.b_bl, DL.i_int, DL.s_str, DL.l_lst, DL.q_lst, DL.q_tup, DL.c_lst, DL.c_seq, DL.c_lis, DL.x_cel, DL.x_lst, DL.x_tup, DL.at_nn, DL.ix_in, DL.p_cel, DL.e_mulIf, DL.e_mulM, DL.t_len, DL.t_intB, DL.start, DL.s_setIx, DL.s_for, DL.i_rng, DL.i_rng2, DL.w_lc, DL.r_one, DL.s_app, DL.g_cel, DL.w_dct0, DL.w_meth, DL.isC_obj, DL.w_make, DL.w_pick, DL.pick_cons, DL.pick_nil, DL.w_own, DL.w_ne, DL.w_obS, DL.cls_obj, DL.fld_obj, DL.w_fmt, DL.w_fs, DL.w_fsNil, DL.w_fsCons, DL.w_isT, DL.w_revA, DL.s_try, DL.s_raiseI, DL.s_tryP, DL.s_endX, DL.w_isXT, DL.i_any, DL.ia_tup, DL.ia_str, DL.ia_lst, DL.ia_scr, DL.ia_cel, DL.gl_glo, DL.w_callA, DL.s_tryN, DL.s_never, DL.s_fld, DL.w_listN, DL.g_seq, DL.g_cons, DL.g_nil, DL.g_nm, DL.t_yes, DL.wipe_cons, DL.wipe_nil, DL.nn_non, DL.nn_int, DL.nn_str, DL.nn_bl, DL.nn_tup, DL.nn_lst, DL.w_fmR, DL.w_owns, DL.w_nes, DL.w_obSs, DL.w_meths, List.map_cons, List.map_nil, List.length_cons, List.length_nil, List.cons_append, List.nil_append, List.append_nil, List.drop_zero, List.drop_nil, List.drop_succ_cons, List.getElem?_cons_zero, List.getElem?_cons_succ, List.set_cons_zero, List.set_cons_succ, List.replicate_succ, List.replicate_zero, Option.join_some, Option.map_some, if_true, if_false, Bool.not_true, Bool.not_false, true_and, and_true, Nat.reduceAdd, Nat.reduceSub, Nat.reduceLeDiff, decide_true, decide_false, Bool.false_eq_true, Option.bind_some, Int.reduceToNat, List.getElem?_set_self, Int.reduceLT, Int.reduceLE, Int.reduceNeg, Int.reduceSub, Int.reduceAdd, Int.reduceMul, Int.reducePow, Nat.reduceLT, Int.reduceEq, ite_self, t_isS, c_nm, is_shown, f_nblock, f_nrows, f_ncols, PG.dfl_Name_shown, PG.dfl_by_ends_k22, PG.dfl_checked_manner, PG.dfl_column_text, PG.dfl_far_text, PG.dfl_fast_text, PG.dfl_read_letters, PG.dfl_read_name, PG.dfl_read_numbers, PG.dfl_row_text])
end PG
namespace PG
open PySem PySem.Spec PyProof.Rows L2 DL
section
variable {μ m : List M} {n n' : Nm}
theorem isNm : bIsU (.inr "Name") m [nmD n, .glo "Name"] = some (.bl true) := by with_unfolding_all rfl
instance : DecidableEq Nm := fun a b => by
  cases a; cases b
  exact decidable_of_iff' _ (Nm.mk.injEq ..).to_iff
end
local macro_rules | `(tactic| trivial) => `(tactic| simp (config := { dsimp := false }) only [*, eq_self, DL.w_ok, DL.w_ex, DL.w_bind, DL.w_bindS, DL.o_some, DL.w_dC, DL.w_var, DL.w_op, DL.a_nil, DL.a_cons, DL.w_tup, DL.w_lst, DL.w_blt, DL.w_call, DL.w_callN, DL.w_or, DL.w_and, DL.w_not, DL.w_neg, DL.w_if, DL.w_chain, DL.t_tru, DL.t_tst, DL.t_and, DL.t_or, DL.t_not, DL.p_no, DL.p_some, DL.w_slc, DL.w_m1, DL.w_m0, DL.w_fld, DL.s_nil, DL.s_brk, DL.s_cnt, DL.s_retN, DL.s_raise, DL.s_seq, DL.s_ret, DL.s_exp, DL.s_if, DL.s_set, DL.s_new, DL.s_cel, DL.s_retC, DL.s_par, DL.s_asg, DL.e_add, DL.e_sub, DL.e_mulR, DL.e_mulL, DL.e_modS, DL.e_divS, DL.e_pow, DL.e_lt, DL.e_le, DL.e_gt, DL.e_ge, DL.e_is, DL.e_isN, DL.e_eqI, DL.e_neI, DL.e_eqS, DL.e_neS, DL.h_bl, DL.h_int, DL.h_non, DL.b_bl, DL.i_int, DL.s_str, DL.l_lst, DL.q_lst, DL.q_tup, DL.c_lst, DL.c_seq, DL.c_lis, DL.x_cel, DL.x_lst, DL.x_tup, DL.at_nn, DL.ix_in, DL.p_cel, DL.e_mulIf, DL.e_mulM, DL.t_len, DL.t_intB, DL.start, DL.s_setIx, DL.s_for, DL.i_rng, DL.i_rng2, DL.w_lc, DL.r_one, DL.s_app, DL.g_cel, DL.w_dct0, DL.w_meth, DL.isC_obj, DL.w_make, DL.w_pick, DL.pick_cons, DL.pick_nil, DL.w_own, DL.w_ne, DL.w_obS, DL.cls_obj, DL.fld_obj, DL.w_fmt, DL.w_fs, DL.w_fsNil, DL.w_fsCons, DL.w_isT, DL.w_revA, DL.s_try, DL.s_raiseI, DL.s_tryP, DL.s_endX, DL.w_isXT, DL.i_any, DL.ia_tup, DL.ia_str, DL.ia_lst, DL.ia_scr, DL.ia_cel, DL.gl_glo, DL.w_callA, DL.s_tryN, DL.s_never, DL.s_fld, DL.w_listN, DL.g_seq, DL.g_cons, DL.g_nil, DL.g_nm, DL.t_yes, DL.wipe_cons, DL.wipe_nil, DL.nn_non, DL.nn_int, DL.nn_str, DL.nn_bl, DL.nn_tup, DL.nn_lst, DL.w_fmR, DL.w_owns, DL.w_nes, DL.w_obSs, DL.w_meths, List.map_cons, List.map_nil, List.length_cons, List.length_nil, List.cons_append, List.nil_append, List.append_nil, List.drop_zero, List.drop_nil, List.drop_succ_cons, List.getElem?_cons_zero, List.getElem?_cons_succ, List.set_cons_zero, List.set_cons_succ, List.replicate_succ, List.replicate_zero, Option.join_some, Option.map_some, if_true, if_false, Bool.not_true, Bool.not_false, true_and, and_true, Nat.reduceAdd, Nat.reduceSub, Nat.reduceLeDiff, decide_true, decide_false, Bool.false_eq_true, Option.bind_some, Int.reduceToNat, List.getElem?_set_self, Int.reduceLT, Int.reduceLE, Int.reduceNeg, Int.reduceSub, Int.reduceAdd, Int.reduceMul, Int.reducePow, Nat.reduceLT, Int.reduceEq, ite_self, t_isS, c_nm, is_shown, f_nblock, f_nrows, f_ncols, PG.dfl_Block_eq__, PG.dfl_Name_eq__, PG.dfl_Name_repr__, PG.dfl_Name_shown, PG.dfl_Name_str__, PG.dfl_by_ends_k22, PG.dfl_checked_manner, PG.dfl_column_text, PG.dfl_far_text, PG.dfl_fast_text, PG.dfl_row_text])
section
variable {μ m : List M} {n n' : Nm}
theorem x_nstr (hc : Cln μ) (hn : n.b.Fg) : G_Name_str__ [nmD n] μ = .ok (.str (nameS n)) μ := by
  apply eq_ok
  unfold G_Name_str__
  refine wo_fn rfl ?_
  unfold D_Name_str__
  have a0 : G_Name_shown [nmD n, .str "letters", .non] μ = .ok (.str (nameS n)) μ := x_shownL (o := none) hc hn (fun _ e => nomatch e)
  have z2 : ∀ x : Str, bStr2 μ [.str x] = some (.str x) := fun _ => rfl
  trivial
  exact fr_same hc rfl ⟨rfl, rfl⟩
theorem eq_marks {a b c d a' b' c' d' : Bool} : opEq m (.tup [mkB a b, mkB c d]) (.tup [mkB a' b', mkB c' d']) = some (.bl (((a == a') && (b == b')) && ((c == c') && (d == d')))) := by
  show some (D.bl (((a == a') && ((b == b') && true)) && (((c == c') && ((d == d') && true)) && true))) = _
  rw [Bool.and_true, Bool.and_true, Bool.and_true]
theorem x_neq (hc : Cln μ) : G_Name_eq__ [nmD n, nmD n'] μ = .ok (.bl (decide (n = n'))) μ := by
  apply eq_ok
  unfold G_Name_eq__
  refine wo_fn rfl ?_
  unfold D_Name_eq__
  have e1 := isNm (m := μ) (n := n')
  have q1 := x_eq (b := n.b) (c := n'.b) hc
  have tg : ∀ b, tagOf μ (blkD b) = some (.inr ("Block" : Str)) := fun _ => rfl
  have cb : ∀ b, clsAt μ (blkD b) = some ("Block" : Str) := fun _ => rfl
  have ist : ∀ t : Ty, (some t).isSome = true := fun _ => rfl
  have em := eq_marks (m := μ) (a := n.u) (b := n.d) (c := n.l) (d := n.r) (a' := n'.u) (b' := n'.d) (c' := n'.l) (d' := n'.r)
  have fin : ∀ x : Bool, x = decide (n = n') → FR μ.length μ (.bl x) (fun z m' => z = .bl (decide (n = n')) ∧ m' = μ) := fun x e => by rw [e]; exact fr_same hc rfl ⟨rfl, rfl⟩
  have all : (((n.u == n'.u) && (n.d == n'.d)) && ((n.l == n'.l) && (n.r == n'.r)) && decide (n.b = n'.b)) = decide (n = n') := by
    obtain ⟨b, u, d, l, r⟩ := n
    obtain ⟨b', u', d', l', r'⟩ := n'
    simp only [Nm.mk.injEq]
    by_cases h1 : b = b' <;> by_cases h2 : u = u' <;> by_cases h3 : d = d' <;> by_cases h4 : l = l' <;> by_cases h5 : r = r' <;> simp [h1, h2, h3, h4, h5]
  cases hb : decide (n.b = n'.b) with
  | false =>
    rw [hb] at q1 all
    rw [Bool.and_false] at all
    have f := fin false all
    clear fin all
    trivial
  | true =>
    rw [hb] at q1 all
    rw [Bool.and_true] at all
    have f := fin _ all
    clear fin all
    trivial
end
end PG
namespace PG
open PySem PySem.Spec PyProof.Rows L2 DL
section
variable {μ m : List M} {b c : Blk} {o : Option Int}
theorem jx0 : opIx m (four b) (.int 0) = some (.int b.t) := rfl
theorem jx1 : opIx m (four b) (.int 1) = some (.int b.l) := rfl
theorem jx2 : opIx m (four b) (.int 2) = some (opt b.b) := rfl
theorem jx3 : opIx m (four b) (.int 3) = some (opt b.r) := rfl
theorem isN_opt : opIsN m (opt o) .non = some (.bl o.isSome) := by cases o <;> rfl
end
local macro_rules | `(tactic| trivial) => `(tactic| simp (config := { dsimp := false }) only [*, eq_self, DL.w_ok, DL.w_ex, DL.w_bind, DL.w_bindS, DL.o_some, DL.w_dC, DL.w_var, DL.w_op, DL.a_nil, DL.a_cons, DL.w_tup, DL.w_lst, DL.w_blt, DL.w_call, DL.w_callN, DL.w_or, DL.w_and, DL.w_not, DL.w_neg, DL.w_if, DL.w_chain, DL.t_tru, DL.t_tst, DL.t_and, DL.t_or, DL.t_not, DL.p_no, DL.p_some, DL.w_slc, DL.w_m1, DL.w_m0, DL.w_fld, DL.s_nil, DL.s_brk, DL.s_cnt, DL.s_retN, DL.s_raise, DL.s_seq, DL.s_ret, DL.s_exp, DL.s_if, DL.s_set, DL.s_new, DL.s_cel, DL.s_retC, DL.s_par, DL.s_asg, DL.e_add, DL.e_sub, DL.e_mulR, DL.e_mulL, DL.e_modS, DL.e_divS, DL.e_pow, DL.e_lt, DL.e_le, DL.e_gt, DL.e_ge, DL.e_is, DL.e_isN, DL.e_eqI, DL.e_neI, DL.e_eqS, DL.e_neS, DL.h_bl, DL.h_int, DL.h_non, DL.b_bl, DL.i_int, DL.s_str, DL.l_lst, DL.q_lst, DL.q_tup, DL.c_lst, DL.c_seq, DL.c_lis, DL.x_cel, DL.x_lst, DL.x_tup, DL.at_nn, DL.ix_in, DL.p_cel, DL.e_mulIf, DL.e_mulM, DL.t_len, DL.t_intB, DL.start, DL.s_setIx, DL.s_for, DL.i_rng, DL.i_rng2, DL.w_lc, DL.r_one, DL.s_app, DL.g_cel, DL.w_dct0, DL.w_meth, DL.isC_obj, DL.w_make, DL.w_pick, DL.pick_cons, DL.pick_nil, DL.w_own, DL.w_ne, DL.w_obS, DL.cls_obj, DL.fld_obj, DL.w_fmt, DL.w_fs, DL.w_fsNil, DL.w_fsCons, DL.w_isT, DL.w_revA, DL.s_try, DL.s_raiseI, DL.s_tryP, DL.s_endX, DL.w_isXT, DL.i_any, DL.ia_tup, DL.ia_str, DL.ia_lst, DL.ia_scr, DL.ia_cel, DL.gl_glo, DL.w_callA, DL.s_tryN, DL.s_never, DL.s_fld, DL.w_listN, DL.g_seq, DL.g_cons, DL.g_nil, DL.g_nm, DL.t_yes, DL.wipe_cons, DL.wipe_nil, DL.nn_non, DL.nn_int, DL.nn_str, DL.nn_bl, DL.nn_tup, DL.nn_lst, DL.w_fmR, DL.w_owns, DL.w_nes, DL.w_obSs, DL.w_meths, List.map_cons, List.map_nil, List.length_cons, List.length_nil, List.cons_append, List.nil_append, List.append_nil, List.drop_zero, List.drop_nil, List.drop_succ_cons, List.getElem?_cons_zero, List.getElem?_cons_succ, List.set_cons_zero, List.set_cons_succ, List.replicate_succ, List.replicate_zero, Option.join_some, Option.map_some, if_true, if_false, Bool.not_true, Bool.not_false, true_and, and_true, Nat.reduceAdd, Nat.reduceSub, Nat.reduceLeDiff, decide_true, decide_false, Bool.false_eq_true, Option.bind_some, Int.reduceToNat, List.getElem?_set_self, Int.reduceLT, Int.reduceLE, Int.reduceNeg, Int.reduceSub, Int.reduceAdd, Int.reduceMul, Int.reducePow, Nat.reduceLT, Int.reduceEq, ite_self, jx0, jx1, jx2, jx3, opt_none', opt_some', PG.dfl_law_is_cell, PG.dfl_law_is_columns, PG.dfl_law_is_rows])
section
variable {μ m : List M} {b c : Blk} {o : Option Int}
theorem x_lisR (hc : Cln μ) : G_law_is_rows [four b] μ = .ok (.bl (isR b)) μ := by
  apply eq_ok
  unfold G_law_is_rows
  refine wo_fn rfl ?_
  unfold D_law_is_rows isR
  have fin : ∀ x y : Bool, x = y → FR μ.length μ (.bl x) (fun z m' => z = .bl y ∧ m' = μ) := fun x y e => by rw [e]; exact fr_same hc rfl ⟨rfl, rfl⟩
  by_cases h1 : b.l = 1
  · cases hr : b.r <;> cases hb : b.b <;> trivial <;> exact fin _ _ rfl
  · trivial
    exact fin _ _ rfl
theorem x_lisC (hc : Cln μ) : G_law_is_columns [four b] μ = .ok (.bl (isCo b)) μ := by
  apply eq_ok
  unfold G_law_is_columns
  refine wo_fn rfl ?_
  unfold D_law_is_columns isCo
  have fin : ∀ x y : Bool, x = y → FR μ.length μ (.bl x) (fun z m' => z = .bl y ∧ m' = μ) := fun x y e => by rw [e]; exact fr_same hc rfl ⟨rfl, rfl⟩
  by_cases h1 : b.t = 1
  · cases hb : b.b <;> cases hr : b.r <;> trivial <;> exact fin _ _ rfl
  · trivial
    exact fin _ _ rfl
theorem x_lisCell (hc : Cln μ) (hk : b.Ok) : G_law_is_cell [four b] μ = .ok (.bl (one1 b)) μ := by
  apply eq_ok
  unfold G_law_is_cell
  refine wo_fn rfl ?_
  unfold D_law_is_cell
  have s1 : slc μ none (some 2) (four b) = some (.tup [.int b.t, .int b.l]) := rfl
  have s2 : slc μ (some 2) none (four b) = some (.tup [opt b.b, opt b.r]) := rfl
  have e1 := @eq_ends μ b.t b.l b.b b.r
  have e2 : decide (b.b = some b.t ∧ b.r = some b.l) = one1 b := decide_eq_decide.mpr (size1_iff hk).symm
  rw [e2] at e1
  clear e2
  trivial
  exact fr_same hc rfl ⟨rfl, rfl⟩
end
end PG
namespace PG
open PySem PySem.Spec PyProof.Rows L2 DL
noncomputable def rowsT : DE := (dTup (aCons (dAnd (dOp opIx (dVar 2) (dC (.int 0))) (dNot (dCall 1 G_law_is_columns (List.drop 0 dfl_law_is_columns) (aCons (dVar 1) aNil)))) (aCons (dAnd (dOp opIx (dVar 2) (dC (.int 1))) (dAnd (dNot (dCall 1 G_law_is_columns (List.drop 0 dfl_law_is_columns) (aCons (dVar 1) aNil))) (dOp opIsN (dOp opIx (dVar 1) (dC (.int 2))) (dC .non)))) aNil)))
noncomputable def colsT : DE := (dTup (aCons (dAnd (dOp opIx (dVar 2) (dC (.int 2))) (dNot (dCall 1 G_law_is_rows (List.drop 0 dfl_law_is_rows) (aCons (dVar 1) aNil)))) (aCons (dAnd (dOp opIx (dVar 2) (dC (.int 3))) (dAnd (dNot (dCall 1 G_law_is_rows (List.drop 0 dfl_law_is_rows) (aCons (dVar 1) aNil))) (dOp opIsN (dOp opIx (dVar 1) (dC (.int 3))) (dC .non)))) aNil)))
theorem marks_eq : D_law_marks =
  (sSeq (sAsg (dLcF (iRng (aCons (dC (.int 4)) aNil)) (gNm 3) tYes' (dOp opEq (dCall 2 G_law_draw (List.drop 0 dfl_law_draw) (aCons (dVar 0) (aCons (dC (.int 2)) aNil))) (dC (.int 1))) [3]) (gNm 2))
    (sSeq (sAsg rowsT (gNm 4))
    (sSeq (sAsg colsT (gNm 5))
    (sSeq (sIf (dTru (dCall 1 G_law_is_cell (List.drop 0 dfl_law_is_cell) (aCons (dVar 1) aNil)))
    (sRet (dTup (aCons (dTup (aCons (dOp opIx (dVar 4) (dC (.int 0))) (aCons (dOp opIx (dVar 4) (dC (.int 0))) aNil))) (aCons (dTup (aCons (dOp opIx (dVar 5) (dC (.int 0))) (aCons (dOp opIx (dVar 5) (dC (.int 0))) aNil))) aNil))))
    sNil)
    (sRet (dTup (aCons (dVar 4) (aCons (dVar 5) aNil)))))))) := rfl
theorem isN_not {m : List M} {o : Option Int} : opIsN m (opt o) .non = some (.bl (!o.isNone)) := by cases o <;> rfl
local macro_rules | `(tactic| trivial) => `(tactic| simp (config := { dsimp := false }) only [*, eq_self, DL.w_ok, DL.w_ex, DL.w_bind, DL.w_bindS, DL.o_some, DL.w_dC, DL.w_var, DL.w_op, DL.a_nil, DL.a_cons, DL.w_tup, DL.w_lst, DL.w_blt, DL.w_call, DL.w_callN, DL.w_or, DL.w_and, DL.w_not, DL.w_neg, DL.w_if, DL.w_chain, DL.t_tru, DL.t_tst, DL.t_and, DL.t_or, DL.t_not, DL.p_no, DL.p_some, DL.w_slc, DL.w_m1, DL.w_m0, DL.w_fld, DL.s_nil, DL.s_brk, DL.s_cnt, DL.s_retN, DL.s_raise, DL.s_seq, DL.s_ret, DL.s_exp, DL.s_if, DL.s_set, DL.s_new, DL.s_cel, DL.s_retC, DL.s_par, DL.s_asg, DL.e_add, DL.e_sub, DL.e_mulR, DL.e_mulL, DL.e_modS, DL.e_divS, DL.e_pow, DL.e_lt, DL.e_le, DL.e_gt, DL.e_ge, DL.e_is, DL.e_isN, DL.e_eqI, DL.e_neI, DL.e_eqS, DL.e_neS, DL.h_bl, DL.h_int, DL.h_non, DL.b_bl, DL.i_int, DL.s_str, DL.l_lst, DL.q_lst, DL.q_tup, DL.c_lst, DL.c_seq, DL.c_lis, DL.x_cel, DL.x_lst, DL.x_tup, DL.at_nn, DL.ix_in, DL.p_cel, DL.e_mulIf, DL.e_mulM, DL.t_len, DL.t_intB, DL.start, DL.s_setIx, DL.s_for, DL.i_rng, DL.i_rng2, DL.w_lc, DL.r_one, DL.s_app, DL.g_cel, DL.w_dct0, DL.w_meth, DL.isC_obj, DL.w_make, DL.w_pick, DL.pick_cons, DL.pick_nil, DL.w_own, DL.w_ne, DL.w_obS, DL.cls_obj, DL.fld_obj, DL.w_fmt, DL.w_fs, DL.w_fsNil, DL.w_fsCons, DL.w_isT, DL.w_revA, DL.s_try, DL.s_raiseI, DL.s_tryP, DL.s_endX, DL.w_isXT, DL.i_any, DL.ia_tup, DL.ia_str, DL.ia_lst, DL.ia_scr, DL.ia_cel, DL.gl_glo, DL.w_callA, DL.s_tryN, DL.s_never, DL.s_fld, DL.w_listN, DL.g_seq, DL.g_cons, DL.g_nil, DL.g_nm, DL.t_yes, DL.wipe_cons, DL.wipe_nil, DL.nn_non, DL.nn_int, DL.nn_str, DL.nn_bl, DL.nn_tup, DL.nn_lst, DL.w_fmR, DL.w_owns, DL.w_nes, DL.w_obSs, DL.w_meths, List.map_cons, List.map_nil, List.length_cons, List.length_nil, List.cons_append, List.nil_append, List.append_nil, List.drop_zero, List.drop_nil, List.drop_succ_cons, List.getElem?_cons_zero, List.getElem?_cons_succ, List.set_cons_zero, List.set_cons_succ, List.replicate_succ, List.replicate_zero, Option.join_some, Option.map_some, if_true, if_false, Bool.not_true, Bool.not_false, true_and, and_true, Nat.reduceAdd, Nat.reduceSub, Nat.reduceLeDiff, decide_true, decide_false, Bool.false_eq_true, Option.bind_some, Int.reduceToNat, List.getElem?_set_self, Int.reduceLT, Int.reduceLE, Int.reduceNeg, Int.reduceSub, Int.reduceAdd, Int.reduceMul, Int.reducePow, Nat.reduceLT, Int.reduceEq, ite_self, jx0, jx1, jx2, jx3, isN_not, mk0, mk1, Bool.not_not, n_opt, PG.dfl_law_draw, PG.dfl_law_is_cell, PG.dfl_law_is_columns, PG.dfl_law_is_rows, PG.dfl_law_marks])
section
variable {μ m : List M} {b : Blk} {i : Nat} {env : En} {a0 a1 a2 a3 : Bool}
theorem rows_e (hc : Cln m) (h1 : env[1]?.join = some (four b)) (h2 : env[2]?.join = some (.lst [.bl a0, .bl a1, .bl a2, .bl a3])) : rowsT env m = .ok (mkB (a0 && !isCo b) (a1 && (!isCo b && !b.b.isNone))) m := by
  have c1 := x_lisC (b := b) hc
  have i0 : opIx m (.lst [.bl a0, .bl a1, .bl a2, .bl a3]) (.int 0) = some (.bl a0) := rfl
  have i1 : opIx m (.lst [.bl a0, .bl a1, .bl a2, .bl a3]) (.int 1) = some (.bl a1) := rfl
  apply eq_ok
  unfold rowsT
  generalize isCo b = q at c1
  cases a0 <;> cases q <;> cases a1 <;> trivial <;> rfl
theorem cols_e (hc : Cln m) (h1 : env[1]?.join = some (four b)) (h2 : env[2]?.join = some (.lst [.bl a0, .bl a1, .bl a2, .bl a3])) : colsT env m = .ok (mkB (a2 && !isR b) (a3 && (!isR b && !b.r.isNone))) m := by
  have c1 := x_lisR (b := b) hc
  have i2 : opIx m (.lst [.bl a0, .bl a1, .bl a2, .bl a3]) (.int 2) = some (.bl a2) := rfl
  have i3 : opIx m (.lst [.bl a0, .bl a1, .bl a2, .bl a3]) (.int 3) = some (.bl a3) := rfl
  apply eq_ok
  unfold colsT
  generalize isR b = q at c1
  cases a2 <;> cases q <;> cases a3 <;> trivial <;> rfl
theorem bit_eq {r : Int} : opEq m (.int r) (.int 1) = some (.bl (decide (r = 1))) := by
  show some (D.bl (r == 1)) = _
  by_cases h : r = 1
  · subst h; rfl
  · simp [h]
theorem marks_k {Q : D → List M → Prop} {X : XP} (h : Dr μ i m) (hb : b.Fg) (k : ∀ (n : Nm) m', n.b = b → n.Ok → Dr μ i m' → Q (.tup [mkB n.u n.d, mkB n.l n.r]) m') : WO (G_law_marks [.cel i, four b] m) Q X ⟨⟩ := by
  refine WO.use (Q' := fun x m' => ∃ n : Nm, x = .tup [mkB n.u n.d, mkB n.l n.r] ∧ n.b = b ∧ n.Ok ∧ Dr μ i m') (k' := ⟨⟩) ?_ (by rintro x m' ⟨n, rfl, h1, h2, h3⟩; exact k n m' h1 h2 h3)
  unfold G_law_marks
  refine wo_fn rfl ?_
  rw [marks_eq]
  have io : iota 0 4 = [.int 0, .int 1, .int 2, .int 3] := rfl
  have w := @w_lcCons
  have w' := @w_lcNil
  have be := @bit_eq
  trivial
  refine draw_k h.self (by decide) (by decide) fun r1 m1 _ _ d1 => ?_
  trivial
  refine draw_k d1 (by decide) (by decide) fun r2 m2 _ _ d2 => ?_
  trivial
  refine draw_k d2 (by decide) (by decide) fun r3 m3 _ _ d3 => ?_
  trivial
  refine draw_k d3 (by decide) (by decide) fun r4 m4 _ _ d4 => ?_
  have c3 := x_lisCell d4.cln hb.ok
  have fin : ∀ u d l r : Bool, mayB u d (!isCo b) b.b (one1 b) = true → mayB l r (!isR b) b.r (one1 b) = true → FR m.length m4 (.tup [mkB u d, mkB l r]) (fun x m' => ∃ n : Nm, x = .tup [mkB n.u n.d, mkB n.l n.r] ∧ n.b = b ∧ n.Ok ∧ Dr μ i m') := fun u d l r h1 h2 => d4.fr rfl ⟨⟨b, u, d, l, r⟩, rfl, rfl, ⟨hb, h1, h2⟩, h.trans d4⟩
  have h5 : one1 b = true → b.b.isNone = false ∧ b.r.isNone = false := fun e => by
    obtain ⟨e1, e2⟩ := (size1_iff hb.ok).mp (of_decide_eq_true e)
    rw [e1, e2]
    exact ⟨rfl, rfl⟩
  have re : ∀ (env : En), env[1]?.join = some (four b) → env[2]?.join = some (.lst [.bl (decide (r1 = 1)), .bl (decide (r2 = 1)), .bl (decide (r3 = 1)), .bl (decide (r4 = 1))]) → rowsT env m4 = _ := fun env => rows_e d4.cln
  have ce : ∀ (env : En), env[1]?.join = some (four b) → env[2]?.join = some (.lst [.bl (decide (r1 = 1)), .bl (decide (r2 = 1)), .bl (decide (r3 = 1)), .bl (decide (r4 = 1))]) → colsT env m4 = _ := fun env => cols_e d4.cln
  unfold mayB at fin
  clear d1 d2 d3
  have h5 := Hide.mk h5
  clear h k d4 io
  cases e5 : one1 b with
  | true =>
    rw [e5] at c3 fin
    trivial
    obtain ⟨q1, q2⟩ := h5.out e5
    rw [q1, q2] at fin
    refine fin _ _ _ _ ?_ ?_
    · cases decide (r1 = 1) <;> cases isCo b <;> rfl
    · cases decide (r3 = 1) <;> cases isR b <;> rfl
  | false =>
    rw [e5] at c3 fin
    trivial
    refine fin _ _ _ _ ?_ ?_
    · cases decide (r1 = 1) <;> cases isCo b <;> cases decide (r2 = 1) <;> cases b.b.isNone <;> rfl
    · cases decide (r3 = 1) <;> cases isR b <;> cases decide (r4 = 1) <;> cases b.r.isNone <;> rfl
end
end PG
namespace PG
open PySem PySem.Spec PyProof.Rows L2 DL
/-! one direction of a name: its two ends, moved, told ahead of the first, put in order -/
def mvI (f : Int) (a : Bool) (k : Int) : Int := if a = true then f else f + k
def mvO (o : Option Int) (a : Bool) (k : Int) : Option Int := if a = true then o else o.map (· + k)
def endsD (f : Int) (o : Option Int) : D := .lst [.int f, opt o]
def ahd (f : Int) (o : Option Int) : Int := match o with
  | none => max 0 (1 - f)
  | some q => max (max 0 (1 - f)) (1 - q)
/-- the ends and marks in order -/
structure Ed where
  f : Int
  o : Option Int
  a : Bool
  b : Bool
def ordE (f : Int) (o : Option Int) (a b : Bool) : Ed := match o with
  | none => ⟨f, none, a, b⟩
  | some q => if q < f then ⟨q, some f, b, a⟩ else ⟨f, some q, a, b⟩
section
variable {μ m : List M} {f k : Int} {o : Option Int} {a b : Bool}
theorem ed0 : opIx m (endsD f o) (.int 0) = some (.int f) := rfl
theorem ed1 : opIx m (endsD f o) (.int 1) = some (opt o) := rfl
theorem edSeq : seqOf m (endsD f o) = some [.int f, opt o] := rfl
theorem edIt : itAny m (endsD f o) = some ([.int f, opt o], fun μ2 => seqOf μ2 (endsD f o) = some [.int f, opt o]) := rfl
theorem isN_int {i : Int} : opIsN m (.int i) .non = some (.bl true) := rfl
theorem isN_non : opIsN m .non .non = some (.bl false) := rfl
theorem edZip : zipO m [endsD f o, mkB a b] = some ([.tup [.int f, .bl a], .tup [opt o, .bl b]], fun μ2 => seqOf μ2 (endsD f o) = some [.int f, opt o]) := rfl
theorem aug6 {N : En → List M → Prop} {R : D → List M → Prop} {B C : En → List M → Prop} {Z : Str → List Str → List D → En → List M → Prop} {ks : Ks N R B C Z} {de : DE} {e0 e1 e2 e3 e5 : Option D} {z : Int} :
    WS (sAug 4 de [e0, e1, e2, e3, some (.int z), e5] μ) N R B C Z ks = WO (de [e0, e1, e2, e3, some (.int z), e5] μ) (fun y m => OP (isI y) (fun u => N [e0, e1, e2, e3, some (.int (z + u)), e5] m) ⟨⟩) (fun c ns l m => Z c ns l [e0, e1, e2, e3, some (.int z), e5] m) ⟨⟩ := s_aug rfl
theorem iota2 : iota 0 2 = [.int 0, .int 1] := rfl
end
local macro_rules | `(tactic| trivial) => `(tactic| simp (config := { dsimp := false }) only [*, eq_self, DL.w_ok, DL.w_ex, DL.w_bind, DL.w_bindS, DL.o_some, DL.w_dC, DL.w_var, DL.w_op, DL.a_nil, DL.a_cons, DL.w_tup, DL.w_lst, DL.w_blt, DL.w_call, DL.w_callN, DL.w_or, DL.w_and, DL.w_not, DL.w_neg, DL.w_if, DL.w_chain, DL.t_tru, DL.t_tst, DL.t_and, DL.t_or, DL.t_not, DL.p_no, DL.p_some, DL.w_slc, DL.w_m1, DL.w_m0, DL.w_fld, DL.s_nil, DL.s_brk, DL.s_cnt, DL.s_retN, DL.s_raise, DL.s_seq, DL.s_ret, DL.s_exp, DL.s_if, DL.s_set, DL.s_new, DL.s_cel, DL.s_retC, DL.s_par, DL.s_asg, DL.e_add, DL.e_sub, DL.e_mulR, DL.e_mulL, DL.e_modS, DL.e_divS, DL.e_pow, DL.e_lt, DL.e_le, DL.e_gt, DL.e_ge, DL.e_is, DL.e_isN, DL.e_eqI, DL.e_neI, DL.e_eqS, DL.e_neS, DL.h_bl, DL.h_int, DL.h_non, DL.b_bl, DL.i_int, DL.s_str, DL.l_lst, DL.q_lst, DL.q_tup, DL.c_lst, DL.c_seq, DL.c_lis, DL.x_cel, DL.x_lst, DL.x_tup, DL.at_nn, DL.ix_in, DL.p_cel, DL.e_mulIf, DL.e_mulM, DL.t_len, DL.t_intB, DL.start, DL.s_setIx, DL.s_for, DL.i_rng, DL.i_rng2, DL.w_lc, DL.r_one, DL.s_app, DL.g_cel, DL.w_dct0, DL.w_meth, DL.isC_obj, DL.w_make, DL.w_pick, DL.pick_cons, DL.pick_nil, DL.w_own, DL.w_ne, DL.w_obS, DL.cls_obj, DL.fld_obj, DL.w_fmt, DL.w_fs, DL.w_fsNil, DL.w_fsCons, DL.w_isT, DL.w_revA, DL.s_try, DL.s_raiseI, DL.s_tryP, DL.s_endX, DL.w_isXT, DL.i_any, DL.ia_tup, DL.ia_str, DL.ia_lst, DL.ia_scr, DL.ia_cel, DL.gl_glo, DL.w_callA, DL.s_tryN, DL.s_never, DL.s_fld, DL.w_listN, DL.g_seq, DL.g_cons, DL.g_nil, DL.g_nm, DL.t_yes, DL.wipe_cons, DL.wipe_nil, DL.nn_non, DL.nn_int, DL.nn_str, DL.nn_bl, DL.nn_tup, DL.nn_lst, DL.w_fmR, DL.w_owns, DL.w_nes, DL.w_obSs, DL.w_meths, DL.w_xf, DL.i_zip, DL.w_revB, List.map_cons, List.map_nil, List.length_cons, List.length_nil, List.cons_append, List.nil_append, List.append_nil, List.drop_zero, List.drop_nil, List.drop_succ_cons, List.getElem?_cons_zero, List.getElem?_cons_succ, List.set_cons_zero, List.set_cons_succ, List.replicate_succ, List.replicate_zero, Option.join_some, Option.map_some, if_true, if_false, Bool.not_true, Bool.not_false, true_and, and_true, Nat.reduceAdd, Nat.reduceSub, Nat.reduceLeDiff, decide_true, decide_false, Bool.false_eq_true, Option.bind_some, Int.reduceToNat, List.getElem?_set_self, Int.reduceLT, Int.reduceLE, Int.reduceNeg, Int.reduceSub, Int.reduceAdd, Int.reduceMul, Int.reducePow, Nat.reduceLT, Int.reduceEq, ite_self, ed0, ed1, edSeq, edIt, isN_int, isN_non, mk0, mk1, s_forCons, s_forNil, i_zip, edZip, iota2, aug6, opt_none', opt_some', PG.dfl_law_moved, PG.dfl_moved])
end PG
namespace PG
open PySem PySem.Spec PyProof.Rows L2 DL
section
variable {μ m : List M} {f k x y : Int} {o : Option Int} {a b : Bool}
theorem mxA : bMaxL m [.lst [.int 0, .int x]] = some (.int (max 0 x)) := rfl
theorem mxB : bMaxL m [.lst [.int 0, .int x, .int y]] = some (.int (max (max 0 x) y)) := rfl
theorem mxC : bMaxL m [.lst [.int x, .int 0]] = some (.int (max x 0)) := rfl
theorem mxD : bMaxL m [.lst [.int x, .int y, .int 0]] = some (.int (max (max x y) 0)) := rfl
theorem laA : opAdd m (.lst [.int 0]) (.lst [.int x]) = some (.lst [.int 0, .int x]) := by with_unfolding_all rfl
theorem laB : opAdd m (.lst [.int 0]) (.lst [.int x, .int y]) = some (.lst [.int 0, .int x, .int y]) := by with_unfolding_all rfl
theorem laC : opAdd m (.lst [.int x]) (.lst [.int 0]) = some (.lst [.int x, .int 0]) := by with_unfolding_all rfl
theorem laD : opAdd m (.lst [.int x, .int y]) (.lst [.int 0]) = some (.lst [.int x, .int y, .int 0]) := by with_unfolding_all rfl
theorem revE : revA m (endsD f o) = some (.lst [opt o, .int f]) := rfl
theorem revM : revB m (mkB a b) = some (mkB b a) := rfl
end
local macro_rules | `(tactic| trivial) => `(tactic| simp (config := { dsimp := false }) only [*, eq_self, DL.w_ok, DL.w_ex, DL.w_bind, DL.w_bindS, DL.o_some, DL.w_dC, DL.w_var, DL.w_op, DL.a_nil, DL.a_cons, DL.w_tup, DL.w_lst, DL.w_blt, DL.w_call, DL.w_callN, DL.w_or, DL.w_and, DL.w_not, DL.w_neg, DL.w_if, DL.w_chain, DL.t_tru, DL.t_tst, DL.t_and, DL.t_or, DL.t_not, DL.p_no, DL.p_some, DL.w_slc, DL.w_m1, DL.w_m0, DL.w_fld, DL.s_nil, DL.s_brk, DL.s_cnt, DL.s_retN, DL.s_raise, DL.s_seq, DL.s_ret, DL.s_exp, DL.s_if, DL.s_set, DL.s_new, DL.s_cel, DL.s_retC, DL.s_par, DL.s_asg, DL.e_add, DL.e_sub, DL.e_mulR, DL.e_mulL, DL.e_modS, DL.e_divS, DL.e_pow, DL.e_lt, DL.e_le, DL.e_gt, DL.e_ge, DL.e_is, DL.e_isN, DL.e_eqI, DL.e_neI, DL.e_eqS, DL.e_neS, DL.h_bl, DL.h_int, DL.h_non, DL.b_bl, DL.i_int, DL.s_str, DL.l_lst, DL.q_lst, DL.q_tup, DL.c_lst, DL.c_seq, DL.c_lis, DL.x_cel, DL.x_lst, DL.x_tup, DL.at_nn, DL.ix_in, DL.p_cel, DL.e_mulIf, DL.e_mulM, DL.t_len, DL.t_intB, DL.start, DL.s_setIx, DL.s_for, DL.i_rng, DL.i_rng2, DL.w_lc, DL.r_one, DL.s_app, DL.g_cel, DL.w_dct0, DL.w_meth, DL.isC_obj, DL.w_make, DL.w_pick, DL.pick_cons, DL.pick_nil, DL.w_own, DL.w_ne, DL.w_obS, DL.cls_obj, DL.fld_obj, DL.w_fmt, DL.w_fs, DL.w_fsNil, DL.w_fsCons, DL.w_isT, DL.w_revA, DL.s_try, DL.s_raiseI, DL.s_tryP, DL.s_endX, DL.w_isXT, DL.i_any, DL.ia_tup, DL.ia_str, DL.ia_lst, DL.ia_scr, DL.ia_cel, DL.gl_glo, DL.w_callA, DL.s_tryN, DL.s_never, DL.s_fld, DL.w_listN, DL.g_seq, DL.g_cons, DL.g_nil, DL.g_nm, DL.t_yes, DL.wipe_cons, DL.wipe_nil, DL.nn_non, DL.nn_int, DL.nn_str, DL.nn_bl, DL.nn_tup, DL.nn_lst, DL.w_fmR, DL.w_owns, DL.w_nes, DL.w_obSs, DL.w_meths, DL.w_xf, DL.i_zip, DL.w_revB, List.map_cons, List.map_nil, List.length_cons, List.length_nil, List.cons_append, List.nil_append, List.append_nil, List.drop_zero, List.drop_nil, List.drop_succ_cons, List.getElem?_cons_zero, List.getElem?_cons_succ, List.set_cons_zero, List.set_cons_succ, List.replicate_succ, List.replicate_zero, Option.join_some, Option.map_some, if_true, if_false, Bool.not_true, Bool.not_false, true_and, and_true, Nat.reduceAdd, Nat.reduceSub, Nat.reduceLeDiff, decide_true, decide_false, Bool.false_eq_true, Option.bind_some, Int.reduceToNat, List.getElem?_set_self, Int.reduceLT, Int.reduceLE, Int.reduceNeg, Int.reduceSub, Int.reduceAdd, Int.reduceMul, Int.reducePow, Nat.reduceLT, Int.reduceEq, ite_self, ed0, ed1, edSeq, edIt, isN_int, isN_non, mk0, mk1, w_lcCons, w_lcNil, mxA, mxB, mxC, mxD, laA, laB, laC, laD, opt_none', opt_some', revE, revM, PG.dfl_ahead_of_first, PG.dfl_in_order, PG.dfl_law_ahead, PG.dfl_law_turned, PG.dfl_of_cell])
section
variable {μ m : List M} {f k x y : Int} {o : Option Int} {a b c : Bool}
def edD (e : Ed) : D := endsD e.f e.o
def mkD (e : Ed) : D := mkB e.a e.b
end
end PG
namespace PG
open PySem PySem.Spec PyProof.Rows L2 DL
/-! a name copied so far: what comes of it -/
/-- the ends of rows, of columns, moved -/
def upF (n : Nm) (p : Int) : Int := if isCo n.b = true then n.b.t else mvI n.b.t n.u p
def upO (n : Nm) (p : Int) : Option Int := if isCo n.b = true then n.b.b else mvO n.b.b n.d p
def siF (n : Nm) (q : Int) : Int := if isR n.b = true then n.b.l else mvI n.b.l n.l q
def siO (n : Nm) (q : Int) : Option Int := if isR n.b = true then n.b.r else mvO n.b.r n.r q
def gnU (n : Nm) (p : Int) : Int := ahd (upF n p) (upO n p)
def gnS (n : Nm) (q : Int) : Int := ahd (siF n q) (siO n q)
def edU (n : Nm) (p : Int) : Ed := ordE (upF n p) (upO n p) n.u n.d
def edS (n : Nm) (q : Int) : Ed := ordE (siF n q) (siO n q) n.l n.r
def newB (n : Nm) (p q : Int) : Blk := ⟨(edU n p).f, (edS n q).f, (edU n p).o, (edS n q).o⟩
def newN (n : Nm) (p q : Int) : Nm := ⟨newB n p q, (edU n p).a, if one1 (newB n p q) = true then (edU n p).a else (edU n p).b, (edS n q).a, if one1 (newB n p q) = true then (edS n q).a else (edS n q).b⟩
/-- a name that may be, its numbers small -/
structure Nm.Go (n : Nm) : Prop where
  ok : n.b.Ok
  sm : n.b.Sm
  rows : mayB n.u n.d (!isCo n.b) n.b.b (one1 n.b) = true
  cols : mayB n.l n.r (!isR n.b) n.b.r (one1 n.b) = true
end PG
namespace PG
open PySem PySem.Spec PyProof.Rows L2 DL
local macro_rules | `(tactic| trivial) => `(tactic| simp (config := { dsimp := false }) only [*, eq_self, DL.w_ok, DL.w_ex, DL.w_bind, DL.w_bindS, DL.o_some, DL.w_dC, DL.w_var, DL.w_op, DL.a_nil, DL.a_cons, DL.w_tup, DL.w_lst, DL.w_blt, DL.w_call, DL.w_callN, DL.w_or, DL.w_and, DL.w_not, DL.w_neg, DL.w_if, DL.w_chain, DL.t_tru, DL.t_tst, DL.t_and, DL.t_or, DL.t_not, DL.p_no, DL.p_some, DL.w_slc, DL.w_m1, DL.w_m0, DL.w_fld, DL.s_nil, DL.s_brk, DL.s_cnt, DL.s_retN, DL.s_raise, DL.s_seq, DL.s_ret, DL.s_exp, DL.s_if, DL.s_set, DL.s_new, DL.s_cel, DL.s_retC, DL.s_par, DL.s_asg, DL.e_add, DL.e_sub, DL.e_mulR, DL.e_mulL, DL.e_modS, DL.e_divS, DL.e_pow, DL.e_lt, DL.e_le, DL.e_gt, DL.e_ge, DL.e_is, DL.e_isN, DL.e_eqI, DL.e_neI, DL.e_eqS, DL.e_neS, DL.h_bl, DL.h_int, DL.h_non, DL.b_bl, DL.i_int, DL.s_str, DL.l_lst, DL.q_lst, DL.q_tup, DL.c_lst, DL.c_seq, DL.c_lis, DL.x_cel, DL.x_lst, DL.x_tup, DL.at_nn, DL.ix_in, DL.p_cel, DL.e_mulIf, DL.e_mulM, DL.t_len, DL.t_intB, DL.start, DL.s_setIx, DL.s_for, DL.i_rng, DL.i_rng2, DL.w_lc, DL.r_one, DL.s_app, DL.g_cel, DL.w_dct0, DL.w_meth, DL.isC_obj, DL.w_make, DL.w_pick, DL.pick_cons, DL.pick_nil, DL.w_own, DL.w_ne, DL.w_obS, DL.cls_obj, DL.fld_obj, DL.w_fmt, DL.w_fs, DL.w_fsNil, DL.w_fsCons, DL.w_isT, DL.w_revA, DL.s_try, DL.s_raiseI, DL.s_tryP, DL.s_endX, DL.w_isXT, DL.i_any, DL.ia_tup, DL.ia_str, DL.ia_lst, DL.ia_scr, DL.ia_cel, DL.gl_glo, DL.w_callA, DL.s_tryN, DL.s_never, DL.s_fld, DL.w_listN, DL.g_seq, DL.g_cons, DL.g_nil, DL.g_nm, DL.t_yes, DL.wipe_cons, DL.wipe_nil, DL.nn_non, DL.nn_int, DL.nn_str, DL.nn_bl, DL.nn_tup, DL.nn_lst, DL.w_fmR, DL.w_owns, DL.w_nes, DL.w_obSs, DL.w_meths, DL.w_xf, DL.i_zip, DL.w_revB, List.map_cons, List.map_nil, List.length_cons, List.length_nil, List.cons_append, List.nil_append, List.append_nil, List.drop_zero, List.drop_nil, List.drop_succ_cons, List.getElem?_cons_zero, List.getElem?_cons_succ, List.set_cons_zero, List.set_cons_succ, List.replicate_succ, List.replicate_zero, Option.join_some, Option.map_some, if_true, if_false, Bool.not_true, Bool.not_false, true_and, and_true, Nat.reduceAdd, Nat.reduceSub, Nat.reduceLeDiff, decide_true, decide_false, Bool.false_eq_true, Option.bind_some, Int.reduceToNat, List.getElem?_set_self, Int.reduceLT, Int.reduceLE, Int.reduceNeg, Int.reduceSub, Int.reduceAdd, Int.reduceMul, Int.reducePow, Nat.reduceLT, Int.reduceEq, ite_self, isB_bl', isT_mk, mk0, mk1, is_optN', Bool.not_true, Bool.not_false, c_blk, f_top, f_left, f_bottom, f_right, is_size, is_has, PG.dfl_Block_size, PG.dfl_Name_init__, PG.dfl_ahead_of_first, PG.dfl_are_marks, PG.dfl_in_order, PG.dfl_is_columns, PG.dfl_is_rows, PG.dfl_law_ahead, PG.dfl_law_copied_k24, PG.dfl_law_is_cell, PG.dfl_law_is_columns, PG.dfl_law_is_rows, PG.dfl_law_moved, PG.dfl_law_turned, PG.dfl_may_be])
def dueN (n : Nm) : D := .tup [four n.b, mkB n.u n.d, mkB n.l n.r]
def byD (p q : Int) : D := .tup [.int p, .int q]
def toldD (n : Nm) : D := .tup [.str "told", dueN n]
def goneD (n : Nm) (p q : Int) : D := .tup [.str "gone", .tup [.int (gnU n p), .int (gnS n q)]]
def resD (n : Nm) (p q : Int) : D := if gnU n p = 0 ∧ gnS n q = 0 then toldD (newN n p q) else goneD n p q
section
variable {μ m : List M} {n : Nm} {p q f : Int} {o : Option Int}
theorem res_told (g : gnU n p = 0 ∧ gnS n q = 0) : resD n p q = toldD (newN n p q) := if_pos g
theorem res_gone (g : ¬ (gnU n p = 0 ∧ gnS n q = 0)) : resD n p q = goneD n p q := if_neg g
theorem foldE {f : Int} {o : Option Int} : D.lst [.int f, opt o] = endsD f o := rfl
theorem ex0 {e : Ed} : opIx m (edD e) (.int 0) = some (.int e.f) := rfl
theorem ex1 {e : Ed} : opIx m (edD e) (.int 1) = some (opt e.o) := rfl
theorem ey0 {e : Ed} : opIx m (mkD e) (.int 0) = some (.bl e.a) := rfl
theorem b0 : opIx m (byD p q) (.int 0) = some (.int p) := rfl
theorem b1 : opIx m (byD p q) (.int 1) = some (.int q) := rfl
end
local macro_rules | `(tactic| trivial) => `(tactic| simp (config := { dsimp := false }) only [*, eq_self, DL.w_ok, DL.w_ex, DL.w_bind, DL.w_bindS, DL.o_some, DL.w_dC, DL.w_var, DL.w_op, DL.a_nil, DL.a_cons, DL.w_tup, DL.w_lst, DL.w_blt, DL.w_call, DL.w_callN, DL.w_or, DL.w_and, DL.w_not, DL.w_neg, DL.w_if, DL.w_chain, DL.t_tru, DL.t_tst, DL.t_and, DL.t_or, DL.t_not, DL.p_no, DL.p_some, DL.w_slc, DL.w_m1, DL.w_m0, DL.w_fld, DL.s_nil, DL.s_brk, DL.s_cnt, DL.s_retN, DL.s_raise, DL.s_seq, DL.s_ret, DL.s_exp, DL.s_if, DL.s_set, DL.s_new, DL.s_cel, DL.s_retC, DL.s_par, DL.s_asg, DL.e_add, DL.e_sub, DL.e_mulR, DL.e_mulL, DL.e_modS, DL.e_divS, DL.e_pow, DL.e_lt, DL.e_le, DL.e_gt, DL.e_ge, DL.e_is, DL.e_isN, DL.e_eqI, DL.e_neI, DL.e_eqS, DL.e_neS, DL.h_bl, DL.h_int, DL.h_non, DL.b_bl, DL.i_int, DL.s_str, DL.l_lst, DL.q_lst, DL.q_tup, DL.c_lst, DL.c_seq, DL.c_lis, DL.x_cel, DL.x_lst, DL.x_tup, DL.at_nn, DL.ix_in, DL.p_cel, DL.e_mulIf, DL.e_mulM, DL.t_len, DL.t_intB, DL.start, DL.s_setIx, DL.s_for, DL.i_rng, DL.i_rng2, DL.w_lc, DL.r_one, DL.s_app, DL.g_cel, DL.w_dct0, DL.w_meth, DL.isC_obj, DL.w_make, DL.w_pick, DL.pick_cons, DL.pick_nil, DL.w_own, DL.w_ne, DL.w_obS, DL.cls_obj, DL.fld_obj, DL.w_fmt, DL.w_fs, DL.w_fsNil, DL.w_fsCons, DL.w_isT, DL.w_revA, DL.s_try, DL.s_raiseI, DL.s_tryP, DL.s_endX, DL.w_isXT, DL.i_any, DL.ia_tup, DL.ia_str, DL.ia_lst, DL.ia_scr, DL.ia_cel, DL.gl_glo, DL.w_callA, DL.s_tryN, DL.s_never, DL.s_fld, DL.w_listN, DL.g_seq, DL.g_cons, DL.g_nil, DL.g_nm, DL.t_yes, DL.wipe_cons, DL.wipe_nil, DL.nn_non, DL.nn_int, DL.nn_str, DL.nn_bl, DL.nn_tup, DL.nn_lst, DL.w_fmR, DL.w_owns, DL.w_nes, DL.w_obSs, DL.w_meths, DL.w_xf, DL.i_zip, DL.w_revB, List.map_cons, List.map_nil, List.length_cons, List.length_nil, List.cons_append, List.nil_append, List.append_nil, List.drop_zero, List.drop_nil, List.drop_succ_cons, List.getElem?_cons_zero, List.getElem?_cons_succ, List.set_cons_zero, List.set_cons_succ, List.replicate_succ, List.replicate_zero, Option.join_some, Option.map_some, if_true, if_false, Bool.not_true, Bool.not_false, true_and, and_true, Nat.reduceAdd, Nat.reduceSub, Nat.reduceLeDiff, decide_true, decide_false, Bool.false_eq_true, Option.bind_some, Int.reduceToNat, List.getElem?_set_self, Int.reduceLT, Int.reduceLE, Int.reduceNeg, Int.reduceSub, Int.reduceAdd, Int.reduceMul, Int.reducePow, Nat.reduceLT, Int.reduceEq, ite_self, jx0, jx1, jx2, jx3, foldE, ex0, ex1, ey0, b0, b1, PG.dfl_Block_size, PG.dfl_Name_init__, PG.dfl_ahead_of_first, PG.dfl_are_marks, PG.dfl_in_order, PG.dfl_is_columns, PG.dfl_is_rows, PG.dfl_law_ahead, PG.dfl_law_copied_k24, PG.dfl_law_is_cell, PG.dfl_law_is_columns, PG.dfl_law_is_rows, PG.dfl_law_moved, PG.dfl_law_turned, PG.dfl_may_be])
end PG
namespace PG
open PySem PySem.Spec PyProof.Rows L2 DL
local macro_rules | `(tactic| trivial) => `(tactic| simp (config := { dsimp := false }) only [*, eq_self, DL.w_ok, DL.w_ex, DL.w_bind, DL.w_bindS, DL.o_some, DL.w_dC, DL.w_var, DL.w_op, DL.a_nil, DL.a_cons, DL.w_tup, DL.w_lst, DL.w_blt, DL.w_call, DL.w_callN, DL.w_or, DL.w_and, DL.w_not, DL.w_neg, DL.w_if, DL.w_chain, DL.t_tru, DL.t_tst, DL.t_and, DL.t_or, DL.t_not, DL.p_no, DL.p_some, DL.w_slc, DL.w_m1, DL.w_m0, DL.w_fld, DL.s_nil, DL.s_brk, DL.s_cnt, DL.s_retN, DL.s_raise, DL.s_seq, DL.s_ret, DL.s_exp, DL.s_if, DL.s_set, DL.s_new, DL.s_cel, DL.s_retC, DL.s_par, DL.s_asg, DL.e_add, DL.e_sub, DL.e_mulR, DL.e_mulL, DL.e_modS, DL.e_divS, DL.e_pow, DL.e_lt, DL.e_le, DL.e_gt, DL.e_ge, DL.e_is, DL.e_isN, DL.e_eqI, DL.e_neI, DL.e_eqS, DL.e_neS, DL.h_bl, DL.h_int, DL.h_non, DL.b_bl, DL.i_int, DL.s_str, DL.l_lst, DL.q_lst, DL.q_tup, DL.c_lst, DL.c_seq, DL.c_lis, DL.x_cel, DL.x_lst, DL.x_tup, DL.at_nn, DL.ix_in, DL.p_cel, DL.e_mulIf, DL.e_mulM, DL.t_len, DL.t_intB, DL.start, DL.s_setIx, DL.s_for, DL.i_rng, DL.i_rng2, DL.w_lc, DL.r_one, DL.s_app, DL.g_cel, DL.w_dct0, DL.w_meth, DL.isC_obj, DL.w_make, DL.w_pick, DL.pick_cons, DL.pick_nil, DL.w_own, DL.w_ne, DL.w_obS, DL.cls_obj, DL.fld_obj, DL.w_fmt, DL.w_fs, DL.w_fsNil, DL.w_fsCons, DL.w_isT, DL.w_revA, DL.s_try, DL.s_raiseI, DL.s_tryP, DL.s_endX, DL.w_isXT, DL.i_any, DL.ia_tup, DL.ia_str, DL.ia_lst, DL.ia_scr, DL.ia_cel, DL.gl_glo, DL.w_callA, DL.s_tryN, DL.s_never, DL.s_fld, DL.w_listN, DL.g_seq, DL.g_cons, DL.g_nil, DL.g_nm, DL.t_yes, DL.wipe_cons, DL.wipe_nil, DL.nn_non, DL.nn_int, DL.nn_str, DL.nn_bl, DL.nn_tup, DL.nn_lst, DL.w_fmR, DL.w_owns, DL.w_nes, DL.w_obSs, DL.w_meths, DL.w_xf, DL.i_zip, DL.w_revB, List.map_cons, List.map_nil, List.length_cons, List.length_nil, List.cons_append, List.nil_append, List.append_nil, List.drop_zero, List.drop_nil, List.drop_succ_cons, List.getElem?_cons_zero, List.getElem?_cons_succ, List.set_cons_zero, List.set_cons_succ, List.replicate_succ, List.replicate_zero, Option.join_some, Option.map_some, if_true, if_false, Bool.not_true, Bool.not_false, true_and, and_true, Nat.reduceAdd, Nat.reduceSub, Nat.reduceLeDiff, decide_true, decide_false, Bool.false_eq_true, Option.bind_some, Int.reduceToNat, List.getElem?_set_self, Int.reduceLT, Int.reduceLE, Int.reduceNeg, Int.reduceSub, Int.reduceAdd, Int.reduceMul, Int.reducePow, Nat.reduceLT, Int.reduceEq, ite_self, foldE, ex0, ex1, ey0, b0, b1, c_nm, f_nblock, f_nrows, f_ncols, c_blk, f_top, f_left, f_bottom, f_right, is_size, whole, PG.dfl_Block_init__, PG.dfl_Block_size, PG.dfl_Gone_init__, PG.dfl_Name_copied_k24, PG.dfl_Name_init__, PG.dfl_ahead_of_first, PG.dfl_are_marks, PG.dfl_checked_move, PG.dfl_in_order, PG.dfl_is_columns, PG.dfl_is_count, PG.dfl_is_end, PG.dfl_is_rows, PG.dfl_is_whole, PG.dfl_may_be, PG.dfl_moved, PG.dfl_of_cell])
end PG
namespace PG
open PySem PySem.Spec PyProof.Rows L2 DL
section
variable {μ m : List M} {n : Nm} {p q f x y : Int} {o : Option Int}
theorem is_cop : isC "Name" "copied" m (nmD n) = True := eq_true ⟨rfl, by with_unfolding_all rfl⟩
theorem gx_r : xfd (["Gone"] : List Str) "rows" (.exc "Gone" ["columns", "rows"] [.int y, .int x]) = some (.int x) := by with_unfolding_all rfl
theorem gx_c : xfd (["Gone"] : List Str) "columns" (.exc "Gone" ["columns", "rows"] [.int y, .int x]) = some (.int y) := by with_unfolding_all rfl
theorem cx24 : (["Gone"] : List Str).contains "Gone" = true := by with_unfolding_all rfl
theorem ex24 : exSub "Gone" (.inr "Gone") = true := by with_unfolding_all rfl
theorem ex24c : exSub "Gone" (.inr "CellError") = true := by with_unfolding_all rfl
/-- small enough -/
structure Nm.Sm (n : Nm) : Prop where
  go : n.Go
  dn : n.b.Dn
end
local macro_rules | `(tactic| trivial) => `(tactic| simp (config := { dsimp := false }) only [*, eq_self, DL.w_ok, DL.w_ex, DL.w_bind, DL.w_bindS, DL.o_some, DL.w_dC, DL.w_var, DL.w_op, DL.a_nil, DL.a_cons, DL.w_tup, DL.w_lst, DL.w_blt, DL.w_call, DL.w_callN, DL.w_or, DL.w_and, DL.w_not, DL.w_neg, DL.w_if, DL.w_chain, DL.t_tru, DL.t_tst, DL.t_and, DL.t_or, DL.t_not, DL.p_no, DL.p_some, DL.w_slc, DL.w_m1, DL.w_m0, DL.w_fld, DL.s_nil, DL.s_brk, DL.s_cnt, DL.s_retN, DL.s_raise, DL.s_seq, DL.s_ret, DL.s_exp, DL.s_if, DL.s_set, DL.s_new, DL.s_cel, DL.s_retC, DL.s_par, DL.s_asg, DL.e_add, DL.e_sub, DL.e_mulR, DL.e_mulL, DL.e_modS, DL.e_divS, DL.e_pow, DL.e_lt, DL.e_le, DL.e_gt, DL.e_ge, DL.e_is, DL.e_isN, DL.e_eqI, DL.e_neI, DL.e_eqS, DL.e_neS, DL.h_bl, DL.h_int, DL.h_non, DL.b_bl, DL.i_int, DL.s_str, DL.l_lst, DL.q_lst, DL.q_tup, DL.c_lst, DL.c_seq, DL.c_lis, DL.x_cel, DL.x_lst, DL.x_tup, DL.at_nn, DL.ix_in, DL.p_cel, DL.e_mulIf, DL.e_mulM, DL.t_len, DL.t_intB, DL.start, DL.s_setIx, DL.s_for, DL.i_rng, DL.i_rng2, DL.w_lc, DL.r_one, DL.s_app, DL.g_cel, DL.w_dct0, DL.w_meth, DL.isC_obj, DL.w_make, DL.w_pick, DL.pick_cons, DL.pick_nil, DL.w_own, DL.w_ne, DL.w_obS, DL.cls_obj, DL.fld_obj, DL.w_fmt, DL.w_fs, DL.w_fsNil, DL.w_fsCons, DL.w_isT, DL.w_revA, DL.s_try, DL.s_raiseI, DL.s_tryP, DL.s_endX, DL.w_isXT, DL.i_any, DL.ia_tup, DL.ia_str, DL.ia_lst, DL.ia_scr, DL.ia_cel, DL.gl_glo, DL.w_callA, DL.s_tryN, DL.s_never, DL.s_fld, DL.w_listN, DL.g_seq, DL.g_cons, DL.g_nil, DL.g_nm, DL.t_yes, DL.wipe_cons, DL.wipe_nil, DL.nn_non, DL.nn_int, DL.nn_str, DL.nn_bl, DL.nn_tup, DL.nn_lst, DL.w_fmR, DL.w_owns, DL.w_nes, DL.w_obSs, DL.w_meths, DL.w_xf, DL.i_zip, DL.w_revB, List.map_cons, List.map_nil, List.length_cons, List.length_nil, List.cons_append, List.nil_append, List.append_nil, List.drop_zero, List.drop_nil, List.drop_succ_cons, List.getElem?_cons_zero, List.getElem?_cons_succ, List.set_cons_zero, List.set_cons_succ, List.replicate_succ, List.replicate_zero, Option.join_some, Option.map_some, if_true, if_false, Bool.not_true, Bool.not_false, true_and, and_true, Nat.reduceAdd, Nat.reduceSub, Nat.reduceLeDiff, decide_true, decide_false, Bool.false_eq_true, Option.bind_some, Int.reduceToNat, List.getElem?_set_self, Int.reduceLT, Int.reduceLE, Int.reduceNeg, Int.reduceSub, Int.reduceAdd, Int.reduceMul, Int.reducePow, Nat.reduceLT, Int.reduceEq, ite_self, b0, b1, c_nm, f_nblock, f_nrows, f_ncols, c_blk, f_top, f_left, f_bottom, f_right, is_cop, gx_r, gx_c, cx24, ex24, ex24c, PG.dfl_Name_copied_k24, PG.dfl_law_gone_alone, PG.dfl_law_told, PG.dfl_law_word_k24])
end PG
namespace PG
open PySem PySem.Spec PyProof.Rows L2 DL
section
variable {μ m : List M} {n : Nm} {p q f x y : Int} {o : Option Int}
theorem told_ok : DL.plain (toldD n) = true ∧ dep (toldD n) ≤ 64 := by
  obtain ⟨⟨t, l, q, r⟩, u, d, v, w⟩ := n
  cases q <;> cases r <;> exact ⟨by with_unfolding_all rfl, Nat.le_of_ble_eq_true (by with_unfolding_all rfl)⟩
theorem gone_ok : DL.plain (goneD n p q) = true ∧ dep (goneD n p q) ≤ 64 := ⟨by with_unfolding_all rfl, Nat.le_of_ble_eq_true (by with_unfolding_all rfl)⟩
theorem res_ok : DL.plain (resD n p q) = true ∧ dep (resD n p q) ≤ 64 := by
  by_cases g : gnU n p = 0 ∧ gnS n q = 0
  · rw [res_told g]; exact told_ok
  · rw [res_gone g]; exact gone_ok
theorem now_res : now m (resD n p q) = resD n p q := by
  by_cases g : gnU n p = 0 ∧ gnS n q = 0
  · rw [res_told g]; rfl
  · rw [res_gone g]; rfl
theorem neT : opNe m (.tup [.str "told", .tup [.tup [.int n.b.t, .int n.b.l, opt n.b.b, opt n.b.r], mkB n.u n.d, mkB n.l n.r]]) (toldD n) = some (.bl false) := ne_same (x := toldD n) rfl rfl told_ok.1 told_ok.2
theorem neR : opNe m (resD n p q) (resD n p q) = some (.bl false) := ne_same now_res now_res res_ok.1 res_ok.2
theorem tx0 : opIx m (toldD n) (.int 0) = some (.str "told") := rfl
theorem gx0 : opIx m (goneD n p q) (.int 0) = some (.str "gone") := rfl
theorem gx1 : opIx m (goneD n p q) (.int 1) = some (.tup [.int (gnU n p), .int (gnS n q)]) := rfl
theorem eqTT : opEq m (.str "told") (.str "told") = some (.bl true) := by rw [e_eqS]; rfl
theorem eqGT : opEq m (.str "gone") (.str "told") = some (.bl false) := by rw [e_eqS]; rfl
theorem eqGG : opEq m (.str "gone") (.str "gone") = some (.bl true) := by rw [e_eqS]; rfl
theorem eqTG : opEq m (.str "told") (.str "gone") = some (.bl false) := by rw [e_eqS]; rfl
def a24 (n : Nm) (p q : Int) : D := .tup [nmD (newN n p q), .tup [.int p, .int q]]
theorem foldA : D.tup [nmD (newN n p q), .tup [.int p, .int q]] = a24 n p q := rfl
theorem sqA : seqOf m (a24 n p q) = some [nmD (newN n p q), .tup [.int p, .int q]] := rfl
theorem bInt1 : bInt m [.bl true] = some (.int 1) := rfl
theorem bInt0 : bInt m [.bl false] = some (.int 0) := rfl
theorem ix2a {x y : D} : opIx m (.lst [x, y]) (.int 0) = some x := rfl
theorem ix2b {x y : D} : opIx m (.lst [x, y]) (.int 1) = some y := rfl
theorem by_0 : opIx m (.tup [.int p, .int q]) (.int 0) = some (.int p) := rfl
theorem by_1 : opIx m (.tup [.int p, .int q]) (.int 1) = some (.int q) := rfl
theorem it_2 {x y : D} : itAny m (.lst [x, y]) = some ([x, y], fun μ2 => seqOf μ2 (.lst [x, y]) = some [x, y]) := rfl
theorem sq_l {l : List D} : seqOf m (.lst l) = some l := rfl
end
local macro_rules | `(tactic| trivial) => `(tactic| simp (config := { dsimp := false }) only [*, eq_self, DL.w_ok, DL.w_ex, DL.w_bind, DL.w_bindS, DL.o_some, DL.w_dC, DL.w_var, DL.w_op, DL.a_nil, DL.a_cons, DL.w_tup, DL.w_lst, DL.w_blt, DL.w_call, DL.w_callN, DL.w_or, DL.w_and, DL.w_not, DL.w_neg, DL.w_if, DL.w_chain, DL.t_tru, DL.t_tst, DL.t_and, DL.t_or, DL.t_not, DL.p_no, DL.p_some, DL.w_slc, DL.w_m1, DL.w_m0, DL.w_fld, DL.s_nil, DL.s_brk, DL.s_cnt, DL.s_retN, DL.s_raise, DL.s_seq, DL.s_ret, DL.s_exp, DL.s_if, DL.s_set, DL.s_new, DL.s_cel, DL.s_retC, DL.s_par, DL.s_asg, DL.e_add, DL.e_sub, DL.e_mulR, DL.e_mulL, DL.e_modS, DL.e_divS, DL.e_pow, DL.e_lt, DL.e_le, DL.e_gt, DL.e_ge, DL.e_is, DL.e_isN, DL.e_eqI, DL.e_neI, DL.e_eqS, DL.e_neS, DL.h_bl, DL.h_int, DL.h_non, DL.b_bl, DL.i_int, DL.s_str, DL.l_lst, DL.q_lst, DL.q_tup, DL.c_lst, DL.c_seq, DL.c_lis, DL.x_cel, DL.x_lst, DL.x_tup, DL.at_nn, DL.ix_in, DL.p_cel, DL.e_mulIf, DL.e_mulM, DL.t_len, DL.t_intB, DL.start, DL.s_setIx, DL.s_for, DL.i_rng, DL.i_rng2, DL.w_lc, DL.r_one, DL.s_app, DL.g_cel, DL.w_dct0, DL.w_meth, DL.isC_obj, DL.w_make, DL.w_pick, DL.pick_cons, DL.pick_nil, DL.w_own, DL.w_ne, DL.w_obS, DL.cls_obj, DL.fld_obj, DL.w_fmt, DL.w_fs, DL.w_fsNil, DL.w_fsCons, DL.w_isT, DL.w_revA, DL.s_try, DL.s_raiseI, DL.s_tryP, DL.s_endX, DL.w_isXT, DL.i_any, DL.ia_tup, DL.ia_str, DL.ia_lst, DL.ia_scr, DL.ia_cel, DL.gl_glo, DL.w_callA, DL.s_tryN, DL.s_never, DL.s_fld, DL.w_listN, DL.g_seq, DL.g_cons, DL.g_nil, DL.g_nm, DL.t_yes, DL.wipe_cons, DL.wipe_nil, DL.nn_non, DL.nn_int, DL.nn_str, DL.nn_bl, DL.nn_tup, DL.nn_lst, DL.w_fmR, DL.w_owns, DL.w_nes, DL.w_obSs, DL.w_meths, DL.w_xf, DL.i_zip, DL.w_revB, List.map_cons, List.map_nil, List.length_cons, List.length_nil, List.cons_append, List.nil_append, List.append_nil, List.drop_zero, List.drop_nil, List.drop_succ_cons, List.getElem?_cons_zero, List.getElem?_cons_succ, List.set_cons_zero, List.set_cons_succ, List.replicate_succ, List.replicate_zero, Option.join_some, Option.map_some, if_true, if_false, Bool.not_true, Bool.not_false, true_and, and_true, Nat.reduceAdd, Nat.reduceSub, Nat.reduceLeDiff, decide_true, decide_false, Bool.false_eq_true, Option.bind_some, Int.reduceToNat, List.getElem?_set_self, Int.reduceLT, Int.reduceLE, Int.reduceNeg, Int.reduceSub, Int.reduceAdd, Int.reduceMul, Int.reducePow, Nat.reduceLT, Int.reduceEq, ite_self, b0, b1, by_0, by_1, c_nm, f_nblock, f_nrows, f_ncols, c_blk, f_top, f_left, f_bottom, f_right, is_cop, neT, tx0, gx0, eqTT, eqGT, foldA, sqA, bInt1, bInt0, ix2a, ix2b, it_2, sq_l, s_forCons, s_forNil, PG.dfl_Block_init__, PG.dfl_Block_size, PG.dfl_Gone_init__, PG.dfl_Name_copied_k24, PG.dfl_Name_init__, PG.dfl_ahead_of_first, PG.dfl_checked_move, PG.dfl_in_order, PG.dfl_is_columns, PG.dfl_is_rows, PG.dfl_law_ahead, PG.dfl_law_copied_k24, PG.dfl_law_is_cell, PG.dfl_law_is_columns, PG.dfl_law_is_rows, PG.dfl_law_left_out, PG.dfl_law_moved, PG.dfl_law_turned, PG.dfl_moved, PG.dfl_of_cell])
end PG
namespace PG
open PySem PySem.Spec PyProof.Rows L2 DL
section
variable {μ m m' : List M} {n : Nm} {p q f x y : Int} {o : Option Int} {i : Nat} {b : Blk}
theorem mxI {a b : Int} : bMax m [.int a, .int b] = some (.int (max a b)) := by
  show some (D.int (if b > a then b else a)) = _
  congr 2
  omega
theorem la4 {a b c d e f g h : D} : opAdd m (.lst [a, b, c, d]) (.lst [e, f, g, h]) = some (.lst [a, b, c, d, e, f, g, h]) := by
  rw [e_addL l_lst l_lst, if_pos (by show 4 + 4 ≤ 100000; decide)]; rfl
end
local macro_rules | `(tactic| trivial) => `(tactic| simp (config := { dsimp := false }) only [*, eq_self, DL.w_ok, DL.w_ex, DL.w_bind, DL.w_bindS, DL.o_some, DL.w_dC, DL.w_var, DL.w_op, DL.a_nil, DL.a_cons, DL.w_tup, DL.w_lst, DL.w_blt, DL.w_call, DL.w_callN, DL.w_and, DL.w_not, DL.w_neg, DL.w_if, DL.w_chain, DL.t_tru, DL.t_tst, DL.t_and, DL.t_or, DL.t_not, DL.p_no, DL.p_some, DL.w_slc, DL.w_m1, DL.w_m0, DL.w_fld, DL.s_nil, DL.s_brk, DL.s_cnt, DL.s_retN, DL.s_raise, DL.s_seq, DL.s_ret, DL.s_exp, DL.s_if, DL.s_set, DL.s_new, DL.s_cel, DL.s_retC, DL.s_par, DL.s_asg, DL.e_add, DL.e_sub, DL.e_mulR, DL.e_mulL, DL.e_modS, DL.e_divS, DL.e_pow, DL.e_lt, DL.e_le, DL.e_gt, DL.e_ge, DL.e_is, DL.e_isN, DL.e_eqI, DL.e_neI, DL.e_eqS, DL.e_neS, DL.h_bl, DL.h_int, DL.h_non, DL.b_bl, DL.i_int, DL.s_str, DL.l_lst, DL.q_lst, DL.q_tup, DL.c_lst, DL.c_seq, DL.c_lis, DL.x_cel, DL.x_lst, DL.x_tup, DL.at_nn, DL.ix_in, DL.p_cel, DL.e_mulIf, DL.e_mulM, DL.t_len, DL.t_intB, DL.start, DL.s_setIx, DL.s_for, DL.i_rng, DL.i_rng2, DL.w_lc, DL.r_one, DL.s_app, DL.g_cel, DL.w_dct0, DL.w_meth, DL.isC_obj, DL.w_make, DL.w_pick, DL.pick_cons, DL.pick_nil, DL.w_own, DL.w_ne, DL.w_obS, DL.cls_obj, DL.fld_obj, DL.w_fmt, DL.w_fs, DL.w_fsNil, DL.w_fsCons, DL.w_isT, DL.w_revA, DL.s_try, DL.s_raiseI, DL.s_tryP, DL.s_endX, DL.w_isXT, DL.i_any, DL.ia_tup, DL.ia_str, DL.ia_lst, DL.ia_scr, DL.ia_cel, DL.gl_glo, DL.w_callA, DL.s_tryN, DL.s_never, DL.s_fld, DL.w_listN, DL.g_seq, DL.g_cons, DL.g_nil, DL.g_nm, DL.t_yes, DL.wipe_cons, DL.wipe_nil, DL.nn_non, DL.nn_int, DL.nn_str, DL.nn_bl, DL.nn_tup, DL.nn_lst, DL.w_fmR, DL.w_owns, DL.w_nes, DL.w_obSs, DL.w_meths, DL.w_xf, DL.i_zip, DL.w_revB, List.map_cons, List.map_nil, List.length_cons, List.length_nil, List.cons_append, List.nil_append, List.append_nil, List.drop_zero, List.drop_nil, List.drop_succ_cons, List.getElem?_cons_zero, List.getElem?_cons_succ, List.set_cons_zero, List.set_cons_succ, List.replicate_succ, List.replicate_zero, Option.join_some, Option.map_some, if_true, if_false, Bool.not_true, Bool.not_false, true_and, and_true, Nat.reduceAdd, Nat.reduceSub, Nat.reduceLeDiff, decide_true, decide_false, Bool.false_eq_true, Option.bind_some, Int.reduceToNat, List.getElem?_set_self, Int.reduceLT, Int.reduceLE, Int.reduceNeg, Int.reduceSub, Int.reduceAdd, Int.reduceMul, Int.reducePow, Nat.reduceLT, Int.reduceEq, ite_self, jx0, jx1, jx2, jx3, mxI, la4, iota2, s_forCons, s_forNil, Int.reduceSub, Int.reduceMul, PG.dfl_law_by, PG.dfl_law_draw])
end PG
namespace PG
open PySem PySem.Spec PyProof.Rows L2 DL
section
variable {μ m : List M} {n : Nm} {p q B : Int} {ns : List Int} {hi : Option Int}
theorem neTT : opNe m (toldD n) (toldD n) = some (.bl false) := ne_same (x := toldD n) rfl rfl told_ok.1 told_ok.2
theorem neSt : opNe m (.str "told") (.str "told") = some (.bl false) := neS_self
theorem foldDue : D.tup [four n.b, mkB n.u n.d, mkB n.l n.r] = dueN n := rfl
theorem iota3 : iota 0 3 = [.int 0, .int 1, .int 2] := rfl
theorem ne4f {b : Blk} : opNe m (.tup [.int b.t, .int b.l, opt b.b, opt b.r]) (four b) = some (.bl false) := ne_same (x := four b) rfl rfl plain_four (by rw [dep_four]; decide)
theorem neMk {a b c d : Bool} : opNe m (.tup [mkB a b, mkB c d]) (.tup [mkB a b, mkB c d]) = some (.bl false) := ne_same (x := .tup [mkB a b, mkB c d]) rfl rfl (by with_unfolding_all rfl) (Nat.le_of_ble_eq_true (by with_unfolding_all rfl))
theorem sqMk {a b c d : Bool} : seqOf m (.tup [mkB a b, mkB c d]) = some [mkB a b, mkB c d] := rfl
end
local macro_rules | `(tactic| trivial) => `(tactic| simp (config := { dsimp := false }) only [*, eq_self, DL.w_ok, DL.w_ex, DL.w_bind, DL.w_bindS, DL.o_some, DL.w_dC, DL.w_var, DL.w_op, DL.a_nil, DL.a_cons, DL.w_tup, DL.w_lst, DL.w_blt, DL.w_call, DL.w_callN, DL.w_or, DL.w_and, DL.w_not, DL.w_neg, DL.w_if, DL.w_chain, DL.t_tru, DL.t_tst, DL.t_and, DL.t_or, DL.t_not, DL.p_no, DL.p_some, DL.w_slc, DL.w_m1, DL.w_m0, DL.w_fld, DL.s_nil, DL.s_brk, DL.s_cnt, DL.s_retN, DL.s_raise, DL.s_seq, DL.s_ret, DL.s_exp, DL.s_if, DL.s_set, DL.s_new, DL.s_cel, DL.s_retC, DL.s_par, DL.s_asg, DL.e_add, DL.e_sub, DL.e_mulR, DL.e_mulL, DL.e_modS, DL.e_divS, DL.e_pow, DL.e_lt, DL.e_le, DL.e_gt, DL.e_ge, DL.e_is, DL.e_isN, DL.e_eqI, DL.e_neI, DL.e_eqS, DL.e_neS, DL.h_bl, DL.h_int, DL.h_non, DL.b_bl, DL.i_int, DL.s_str, DL.l_lst, DL.q_lst, DL.q_tup, DL.c_lst, DL.c_seq, DL.c_lis, DL.x_cel, DL.x_lst, DL.x_tup, DL.at_nn, DL.ix_in, DL.p_cel, DL.e_mulIf, DL.e_mulM, DL.t_len, DL.t_intB, DL.start, DL.s_setIx, DL.s_for, DL.i_rng, DL.i_rng2, DL.w_lc, DL.r_one, DL.s_app, DL.g_cel, DL.w_dct0, DL.w_meth, DL.isC_obj, DL.w_make, DL.w_pick, DL.pick_cons, DL.pick_nil, DL.w_own, DL.w_ne, DL.w_obS, DL.cls_obj, DL.fld_obj, DL.w_fmt, DL.w_fs, DL.w_fsNil, DL.w_fsCons, DL.w_isT, DL.w_revA, DL.s_try, DL.s_raiseI, DL.s_tryP, DL.s_endX, DL.w_isXT, DL.i_any, DL.ia_tup, DL.ia_str, DL.ia_lst, DL.ia_scr, DL.ia_cel, DL.gl_glo, DL.w_callA, DL.s_tryN, DL.s_never, DL.s_fld, DL.w_listN, DL.g_seq, DL.g_cons, DL.g_nil, DL.g_nm, DL.t_yes, DL.wipe_cons, DL.wipe_nil, DL.nn_non, DL.nn_int, DL.nn_str, DL.nn_bl, DL.nn_tup, DL.nn_lst, DL.w_fmR, DL.w_owns, DL.w_nes, DL.w_obSs, DL.w_meths, DL.w_xf, DL.i_zip, DL.w_revB, List.map_cons, List.map_nil, List.length_cons, List.length_nil, List.cons_append, List.nil_append, List.append_nil, List.drop_zero, List.drop_nil, List.drop_succ_cons, List.getElem?_cons_zero, List.getElem?_cons_succ, List.set_cons_zero, List.set_cons_succ, List.replicate_succ, List.replicate_zero, Option.join_some, Option.map_some, if_true, if_false, Bool.not_true, Bool.not_false, true_and, and_true, Nat.reduceAdd, Nat.reduceSub, Nat.reduceLeDiff, decide_true, decide_false, Bool.false_eq_true, Option.bind_some, Int.reduceToNat, List.getElem?_set_self, Int.reduceLT, Int.reduceLE, Int.reduceNeg, Int.reduceSub, Int.reduceAdd, Int.reduceMul, Int.reducePow, Nat.reduceLT, Int.reduceEq, ite_self, jx0, jx1, jx2, jx3, foldDue, c_nm, f_nblock, f_nrows, f_ncols, c_blk, f_top, f_left, f_bottom, f_right, neTT, neSt, neR, ne4f, neMk, sqMk, iota3, s_forCons, s_forNil, tx0, gx0, gx1, by_0, by_1, b0, b1, eqTG, eqGG, PG.dfl_Block_init__, PG.dfl_Name_copied_k24, PG.dfl_Name_init__, PG.dfl_law_ahead, PG.dfl_law_block, PG.dfl_law_by, PG.dfl_law_copied_k24, PG.dfl_law_gone_alone, PG.dfl_law_is_cell, PG.dfl_law_is_columns, PG.dfl_law_is_rows, PG.dfl_law_k24, PG.dfl_law_left_out, PG.dfl_law_marks, PG.dfl_law_moved, PG.dfl_law_told, PG.dfl_law_turned, PG.dfl_law_well])
end PG
namespace PG
open PySem PySem.Spec PyProof.Rows L2 DL
/-! ends in numbers -/
local macro_rules | `(tactic| trivial) => `(tactic| simp (config := { dsimp := false }) only [*, eq_self, DL.w_ok, DL.w_ex, DL.w_bind, DL.w_bindS, DL.o_some, DL.w_dC, DL.w_var, DL.w_op, DL.a_nil, DL.a_cons, DL.w_tup, DL.w_lst, DL.w_blt, DL.w_call, DL.w_callN, DL.w_or, DL.w_and, DL.w_not, DL.w_neg, DL.w_if, DL.w_chain, DL.t_tru, DL.t_tst, DL.t_and, DL.t_or, DL.t_not, DL.p_no, DL.p_some, DL.w_slc, DL.w_m1, DL.w_m0, DL.w_fld, DL.s_nil, DL.s_brk, DL.s_cnt, DL.s_retN, DL.s_raise, DL.s_seq, DL.s_ret, DL.s_exp, DL.s_if, DL.s_set, DL.s_new, DL.s_cel, DL.s_retC, DL.s_par, DL.s_asg, DL.e_add, DL.e_sub, DL.e_mulR, DL.e_mulL, DL.e_modS, DL.e_divS, DL.e_pow, DL.e_lt, DL.e_le, DL.e_gt, DL.e_ge, DL.e_is, DL.e_isN, DL.e_eqI, DL.e_neI, DL.e_eqS, DL.e_neS, DL.h_bl, DL.h_int, DL.h_non, DL.b_bl, DL.i_int, DL.s_str, DL.l_lst, DL.q_lst, DL.q_tup, DL.c_lst, DL.c_seq, DL.c_lis, DL.x_cel, DL.x_lst, DL.x_tup, DL.at_nn, DL.ix_in, DL.p_cel, DL.e_mulIf, DL.e_mulM, DL.t_len, DL.t_intB, DL.start, DL.s_setIx, DL.s_for, DL.i_rng, DL.i_rng2, DL.w_lc, DL.r_one, DL.s_app, DL.g_cel, DL.w_dct0, DL.w_meth, DL.isC_obj, DL.w_make, DL.w_pick, DL.pick_cons, DL.pick_nil, DL.w_own, DL.w_ne, DL.w_obS, DL.cls_obj, DL.fld_obj, DL.w_fmt, DL.w_fs, DL.w_fsNil, DL.w_fsCons, DL.w_isT, DL.w_revA, DL.s_try, DL.s_raiseI, DL.s_tryP, DL.s_endX, DL.w_isXT, DL.i_any, DL.ia_tup, DL.ia_str, DL.ia_lst, DL.ia_scr, DL.ia_cel, DL.gl_glo, DL.w_callA, DL.s_tryN, DL.s_never, DL.s_fld, DL.w_listN, DL.g_seq, DL.g_cons, DL.g_nil, DL.g_nm, DL.t_yes, DL.wipe_cons, DL.wipe_nil, DL.nn_non, DL.nn_int, DL.nn_str, DL.nn_bl, DL.nn_tup, DL.nn_lst, DL.w_fmR, DL.w_owns, DL.w_nes, DL.w_obSs, DL.w_meths, List.map_cons, List.map_nil, List.length_cons, List.length_nil, List.cons_append, List.nil_append, List.append_nil, List.drop_zero, List.drop_nil, List.drop_succ_cons, List.getElem?_cons_zero, List.getElem?_cons_succ, List.set_cons_zero, List.set_cons_succ, List.replicate_succ, List.replicate_zero, Option.join_some, Option.map_some, if_true, if_false, Bool.not_true, Bool.not_false, true_and, and_true, Nat.reduceAdd, Nat.reduceSub, Nat.reduceLeDiff, decide_true, decide_false, Bool.false_eq_true, Option.bind_some, Int.reduceToNat, List.getElem?_set_self, Int.reduceLT, Int.reduceLE, Int.reduceNeg, Int.reduceSub, Int.reduceAdd, Int.reduceMul, Int.reducePow, Nat.reduceLT, Int.reduceEq, ite_self, opt_none', opt_some', PG.dfl_far_text, PG.dfl_law_far])
end PG
namespace PG
open PySem PySem.Spec PyProof.Rows L2 DL
section
variable {μ m : List M} {l T : List Nat} {c k : Nat}
theorem ix_first (h : T.length ≤ 1000) : opIx m (.str (mkS (c :: T))) (.int 0) = some (.str (mkS [c])) := by
  show (if (mkS (c :: T)).length ≤ 100000 then DL.strAt (mkS (c :: T)) 0 else none) = _
  rw [if_pos (by rw [mkS_len, List.length_cons]; omega)]
  unfold DL.strAt
  rw [show (mkS (c :: T)).cps.toList = c :: T from rfl, at_nn (by decide)]
  rfl
end
local macro_rules | `(tactic| trivial) => `(tactic| simp (config := { dsimp := false }) only [*, eq_self, DL.w_ok, DL.w_ex, DL.w_bind, DL.w_bindS, DL.o_some, DL.w_dC, DL.w_var, DL.w_op, DL.a_nil, DL.a_cons, DL.w_tup, DL.w_lst, DL.w_blt, DL.w_call, DL.w_callN, DL.w_or, DL.w_and, DL.w_not, DL.w_neg, DL.w_if, DL.w_chain, DL.t_tru, DL.t_tst, DL.t_and, DL.t_or, DL.t_not, DL.p_no, DL.p_some, DL.w_slc, DL.w_m1, DL.w_m0, DL.w_fld, DL.s_nil, DL.s_brk, DL.s_cnt, DL.s_retN, DL.s_raise, DL.s_seq, DL.s_ret, DL.s_exp, DL.s_if, DL.s_set, DL.s_new, DL.s_cel, DL.s_retC, DL.s_par, DL.s_asg, DL.e_add, DL.e_sub, DL.e_mulR, DL.e_mulL, DL.e_modS, DL.e_divS, DL.e_pow, DL.e_lt, DL.e_le, DL.e_gt, DL.e_ge, DL.e_is, DL.e_isN, DL.e_eqI, DL.e_neI, DL.e_eqS, DL.e_neS, DL.h_bl, DL.h_int, DL.h_non, DL.b_bl, DL.i_int, DL.s_str, DL.l_lst, DL.q_lst, DL.q_tup, DL.c_lst, DL.c_seq, DL.c_lis, DL.x_cel, DL.x_lst, DL.x_tup, DL.at_nn, DL.ix_in, DL.p_cel, DL.e_mulIf, DL.e_mulM, DL.t_len, DL.t_intB, DL.start, DL.s_setIx, DL.s_for, DL.i_rng, DL.i_rng2, DL.w_lc, DL.r_one, DL.s_app, DL.g_cel, DL.w_dct0, DL.w_meth, DL.isC_obj, DL.w_make, DL.w_pick, DL.pick_cons, DL.pick_nil, DL.w_own, DL.w_ne, DL.w_obS, DL.cls_obj, DL.fld_obj, DL.w_fmt, DL.w_fs, DL.w_fsNil, DL.w_fsCons, DL.w_isT, DL.w_revA, DL.s_try, DL.s_raiseI, DL.s_tryP, DL.s_endX, DL.w_isXT, DL.i_any, DL.ia_tup, DL.ia_str, DL.ia_lst, DL.ia_scr, DL.ia_cel, DL.gl_glo, DL.w_callA, DL.s_tryN, DL.s_never, DL.s_fld, DL.w_listN, DL.g_seq, DL.g_cons, DL.g_nil, DL.g_nm, DL.t_yes, DL.wipe_cons, DL.wipe_nil, DL.nn_non, DL.nn_int, DL.nn_str, DL.nn_bl, DL.nn_tup, DL.nn_lst, DL.w_fmR, DL.w_owns, DL.w_nes, DL.w_obSs, DL.w_meths, List.map_cons, List.map_nil, List.length_cons, List.length_nil, List.cons_append, List.nil_append, List.append_nil, List.drop_zero, List.drop_nil, List.drop_succ_cons, List.getElem?_cons_zero, List.getElem?_cons_succ, List.set_cons_zero, List.set_cons_succ, List.replicate_succ, List.replicate_zero, Option.join_some, Option.map_some, if_true, if_false, Bool.not_true, Bool.not_false, true_and, and_true, Nat.reduceAdd, Nat.reduceSub, Nat.reduceLeDiff, decide_true, decide_false, Bool.false_eq_true, Option.bind_some, Int.reduceToNat, List.getElem?_set_self, Int.reduceLT, Int.reduceLE, Int.reduceNeg, Int.reduceSub, Int.reduceAdd, Int.reduceMul, Int.reducePow, Nat.reduceLT, Int.reduceEq, ite_self, PG.dfl_count_of, PG.dfl_far_of])
end PG
namespace PG
open PySem PySem.Spec PyProof.Rows L2 DL
local macro_rules | `(tactic| trivial) => `(tactic| simp (config := { dsimp := false }) only [*, eq_self, DL.w_ok, DL.w_ex, DL.w_bind, DL.w_bindS, DL.o_some, DL.w_dC, DL.w_var, DL.w_op, DL.a_nil, DL.a_cons, DL.w_tup, DL.w_lst, DL.w_blt, DL.w_call, DL.w_callN, DL.w_or, DL.w_and, DL.w_not, DL.w_neg, DL.w_if, DL.w_chain, DL.t_tru, DL.t_tst, DL.t_and, DL.t_or, DL.t_not, DL.p_no, DL.p_some, DL.w_slc, DL.w_m1, DL.w_m0, DL.w_fld, DL.s_nil, DL.s_brk, DL.s_cnt, DL.s_retN, DL.s_raise, DL.s_seq, DL.s_ret, DL.s_exp, DL.s_if, DL.s_set, DL.s_new, DL.s_cel, DL.s_retC, DL.s_par, DL.s_asg, DL.e_add, DL.e_sub, DL.e_mulR, DL.e_mulL, DL.e_modS, DL.e_divS, DL.e_pow, DL.e_lt, DL.e_le, DL.e_gt, DL.e_ge, DL.e_is, DL.e_isN, DL.e_eqI, DL.e_neI, DL.e_eqS, DL.e_neS, DL.h_bl, DL.h_int, DL.h_non, DL.b_bl, DL.i_int, DL.s_str, DL.l_lst, DL.q_lst, DL.q_tup, DL.c_lst, DL.c_seq, DL.c_lis, DL.x_cel, DL.x_lst, DL.x_tup, DL.at_nn, DL.ix_in, DL.p_cel, DL.e_mulIf, DL.e_mulM, DL.t_len, DL.t_intB, DL.start, DL.s_setIx, DL.s_for, DL.i_rng, DL.i_rng2, DL.w_lc, DL.r_one, DL.s_app, DL.g_cel, DL.w_dct0, DL.w_meth, DL.isC_obj, DL.w_make, DL.w_pick, DL.pick_cons, DL.pick_nil, DL.w_own, DL.w_ne, DL.w_obS, DL.cls_obj, DL.fld_obj, DL.w_fmt, DL.w_fs, DL.w_fsNil, DL.w_fsCons, DL.w_isT, DL.w_revA, DL.s_try, DL.s_raiseI, DL.s_tryP, DL.s_endX, DL.w_isXT, DL.i_any, DL.ia_tup, DL.ia_str, DL.ia_lst, DL.ia_scr, DL.ia_cel, DL.gl_glo, DL.w_callA, DL.s_tryN, DL.s_never, DL.s_fld, DL.w_listN, DL.g_seq, DL.g_cons, DL.g_nil, DL.g_nm, DL.t_yes, DL.wipe_cons, DL.wipe_nil, DL.nn_non, DL.nn_int, DL.nn_str, DL.nn_bl, DL.nn_tup, DL.nn_lst, DL.w_fmR, DL.w_owns, DL.w_nes, DL.w_obSs, DL.w_meths, List.map_cons, List.map_nil, List.length_cons, List.length_nil, List.cons_append, List.nil_append, List.append_nil, List.drop_zero, List.drop_nil, List.drop_succ_cons, List.getElem?_cons_zero, List.getElem?_cons_succ, List.set_cons_zero, List.set_cons_succ, List.replicate_succ, List.replicate_zero, Option.join_some, Option.map_some, if_true, if_false, Bool.not_true, Bool.not_false, true_and, and_true, Nat.reduceAdd, Nat.reduceSub, Nat.reduceLeDiff, decide_true, decide_false, Bool.false_eq_true, Option.bind_some, Int.reduceToNat, List.getElem?_set_self, Int.reduceLT, Int.reduceLE, Int.reduceNeg, Int.reduceSub, Int.reduceAdd, Int.reduceMul, Int.reducePow, Nat.reduceLT, Int.reduceEq, ite_self, ix_first, PG.dfl_ends_in, PG.dfl_far_of])
end PG
namespace PG
open PySem PySem.Spec PyProof.Rows L2 DL
local macro_rules | `(tactic| trivial) => `(tactic| simp (config := { dsimp := false }) only [*, eq_self, DL.w_ok, DL.w_ex, DL.w_bind, DL.w_bindS, DL.o_some, DL.w_dC, DL.w_var, DL.w_op, DL.a_nil, DL.a_cons, DL.w_tup, DL.w_lst, DL.w_blt, DL.w_call, DL.w_callN, DL.w_or, DL.w_and, DL.w_not, DL.w_neg, DL.w_if, DL.w_chain, DL.t_tru, DL.t_tst, DL.t_and, DL.t_or, DL.t_not, DL.p_no, DL.p_some, DL.w_slc, DL.w_m1, DL.w_m0, DL.w_fld, DL.s_nil, DL.s_brk, DL.s_cnt, DL.s_retN, DL.s_raise, DL.s_seq, DL.s_ret, DL.s_exp, DL.s_if, DL.s_set, DL.s_new, DL.s_cel, DL.s_retC, DL.s_par, DL.s_asg, DL.e_add, DL.e_sub, DL.e_mulR, DL.e_mulL, DL.e_modS, DL.e_divS, DL.e_pow, DL.e_lt, DL.e_le, DL.e_gt, DL.e_ge, DL.e_is, DL.e_isN, DL.e_eqI, DL.e_neI, DL.e_eqS, DL.e_neS, DL.h_bl, DL.h_int, DL.h_non, DL.b_bl, DL.i_int, DL.s_str, DL.l_lst, DL.q_lst, DL.q_tup, DL.c_lst, DL.c_seq, DL.c_lis, DL.x_cel, DL.x_lst, DL.x_tup, DL.at_nn, DL.ix_in, DL.p_cel, DL.e_mulIf, DL.e_mulM, DL.t_len, DL.t_intB, DL.start, DL.s_setIx, DL.s_for, DL.i_rng, DL.i_rng2, DL.w_lc, DL.r_one, DL.s_app, DL.g_cel, DL.w_dct0, DL.w_meth, DL.isC_obj, DL.w_make, DL.w_pick, DL.pick_cons, DL.pick_nil, DL.w_own, DL.w_ne, DL.w_obS, DL.cls_obj, DL.fld_obj, DL.w_fmt, DL.w_fs, DL.w_fsNil, DL.w_fsCons, DL.w_isT, DL.w_revA, DL.s_try, DL.s_raiseI, DL.s_tryP, DL.s_endX, DL.w_isXT, DL.i_any, DL.ia_tup, DL.ia_str, DL.ia_lst, DL.ia_scr, DL.ia_cel, DL.gl_glo, DL.w_callA, DL.s_tryN, DL.s_never, DL.s_fld, DL.w_listN, DL.g_seq, DL.g_cons, DL.g_nil, DL.g_nm, DL.t_yes, DL.wipe_cons, DL.wipe_nil, DL.nn_non, DL.nn_int, DL.nn_str, DL.nn_bl, DL.nn_tup, DL.nn_lst, DL.w_fmR, DL.w_owns, DL.w_nes, DL.w_obSs, DL.w_meths, List.map_cons, List.map_nil, List.length_cons, List.length_nil, List.cons_append, List.nil_append, List.append_nil, List.drop_zero, List.drop_nil, List.drop_succ_cons, List.getElem?_cons_zero, List.getElem?_cons_succ, List.set_cons_zero, List.set_cons_succ, List.replicate_succ, List.replicate_zero, Option.join_some, Option.map_some, if_true, if_false, Bool.not_true, Bool.not_false, true_and, and_true, Nat.reduceAdd, Nat.reduceSub, Nat.reduceLeDiff, decide_true, decide_false, Bool.false_eq_true, Option.bind_some, Int.reduceToNat, List.getElem?_set_self, Int.reduceLT, Int.reduceLE, Int.reduceNeg, Int.reduceSub, Int.reduceAdd, Int.reduceMul, Int.reducePow, Nat.reduceLT, Int.reduceEq, ite_self, c_blk, f_top, f_left, f_bottom, f_right, is_has, is_size, mk0, mk1, c_nm, f_nblock, f_nrows, f_ncols, opt_none', opt_some', t_isS, is_shown, PG.dfl_Block_init__, PG.dfl_Block_size, PG.dfl_Name_init__, PG.dfl_Name_shown, PG.dfl_are_marks, PG.dfl_by_ends_k22, PG.dfl_checked_manner, PG.dfl_column_text, PG.dfl_ends_in, PG.dfl_far_of, PG.dfl_far_text, PG.dfl_fast_text, PG.dfl_is_columns, PG.dfl_is_count, PG.dfl_is_end, PG.dfl_is_rows, PG.dfl_letters_ahead, PG.dfl_may_be, PG.dfl_numbers_beside, PG.dfl_read_letters, PG.dfl_read_name, PG.dfl_read_numbers, PG.dfl_row_text])
section
variable {μ m : List M} {b : Blk} {n : Nm} {h k : Int} {o : Option (Int × Int)}
structure BFig (o : Option (Int × Int)) : Prop where
  h : Fig (some (baseC o).1)
  k : Fig (some (baseC o).2)
theorem BFig.ok (h : BFig o) : BOk o := fun p e => by
  subst e
  exact ⟨(h.h _ rfl).1, (h.k _ rfl).1⟩
end
end PG
namespace PG
open PySem PySem.Spec PyProof.Rows L2 DL
local macro_rules | `(tactic| trivial) => `(tactic| simp (config := { dsimp := false }) only [*, eq_self, DL.w_ok, DL.w_ex, DL.w_bind, DL.w_bindS, DL.o_some, DL.w_dC, DL.w_var, DL.w_op, DL.a_nil, DL.a_cons, DL.w_tup, DL.w_lst, DL.w_blt, DL.w_call, DL.w_callN, DL.w_or, DL.w_and, DL.w_not, DL.w_neg, DL.w_if, DL.w_chain, DL.t_tru, DL.t_tst, DL.t_and, DL.t_or, DL.t_not, DL.p_no, DL.p_some, DL.w_slc, DL.w_m1, DL.w_m0, DL.w_fld, DL.s_nil, DL.s_brk, DL.s_cnt, DL.s_retN, DL.s_raise, DL.s_seq, DL.s_ret, DL.s_exp, DL.s_if, DL.s_set, DL.s_new, DL.s_cel, DL.s_retC, DL.s_par, DL.s_asg, DL.e_add, DL.e_sub, DL.e_mulR, DL.e_mulL, DL.e_modS, DL.e_divS, DL.e_pow, DL.e_lt, DL.e_le, DL.e_gt, DL.e_ge, DL.e_is, DL.e_isN, DL.e_eqI, DL.e_neI, DL.e_eqS, DL.e_neS, DL.h_bl, DL.h_int, DL.h_non, DL.b_bl, DL.i_int, DL.s_str, DL.l_lst, DL.q_lst, DL.q_tup, DL.c_lst, DL.c_seq, DL.c_lis, DL.x_cel, DL.x_lst, DL.x_tup, DL.at_nn, DL.ix_in, DL.p_cel, DL.e_mulIf, DL.e_mulM, DL.t_len, DL.t_intB, DL.start, DL.s_setIx, DL.s_for, DL.i_rng, DL.i_rng2, DL.w_lc, DL.r_one, DL.s_app, DL.g_cel, DL.w_dct0, DL.w_meth, DL.isC_obj, DL.w_make, DL.w_pick, DL.pick_cons, DL.pick_nil, DL.w_own, DL.w_ne, DL.w_obS, DL.cls_obj, DL.fld_obj, DL.w_fmt, DL.w_fs, DL.w_fsNil, DL.w_fsCons, DL.w_isT, DL.w_revA, DL.s_try, DL.s_raiseI, DL.s_tryP, DL.s_endX, DL.w_isXT, DL.i_any, DL.ia_tup, DL.ia_str, DL.ia_lst, DL.ia_scr, DL.ia_cel, DL.gl_glo, DL.w_callA, DL.s_tryN, DL.s_never, DL.s_fld, DL.w_listN, DL.g_seq, DL.g_cons, DL.g_nil, DL.g_nm, DL.t_yes, DL.wipe_cons, DL.wipe_nil, DL.nn_non, DL.nn_int, DL.nn_str, DL.nn_bl, DL.nn_tup, DL.nn_lst, DL.w_fmR, DL.w_owns, DL.w_nes, DL.w_obSs, DL.w_meths, DL.w_xf, DL.i_zip, DL.w_revB, DL.s_new2, DL.w_callN2, List.map_cons, List.map_nil, List.length_cons, List.length_nil, List.cons_append, List.nil_append, List.append_nil, List.drop_zero, List.drop_nil, List.drop_succ_cons, List.getElem?_cons_zero, List.getElem?_cons_succ, List.set_cons_zero, List.set_cons_succ, List.replicate_succ, List.replicate_zero, Option.join_some, Option.map_some, if_true, if_false, Bool.not_true, Bool.not_false, true_and, and_true, Nat.reduceAdd, Nat.reduceSub, Nat.reduceLeDiff, decide_true, decide_false, Bool.false_eq_true, Option.bind_some, Int.reduceToNat, List.getElem?_set_self, Int.reduceLT, Int.reduceLE, Int.reduceNeg, Int.reduceSub, Int.reduceAdd, Int.reduceMul, Int.reducePow, Nat.reduceLT, Int.reduceEq, ite_self, jx0, jx1, jx2, jx3, mk0, mk1, pairOf, PG.dfl_law_base, PG.dfl_law_draw, PG.dfl_law_in_letters, PG.dfl_law_is_cell, PG.dfl_law_is_columns, PG.dfl_law_is_rows, PG.dfl_law_letters, PG.dfl_law_put])
end PG
namespace PG
open PySem PySem.Spec PyProof.Rows L2 DL
section
variable {μ m : List M} {b : Blk} {i : Int}
theorem opt_none : opt none = .non := rfl
theorem opt_some {i : Int} : opt (some i) = .int i := rfl
theorem q_four : seqOf m (four b) = some [.int b.t, .int b.l, opt b.b, opt b.r] := rfl
theorem x_four : opIx m (four b) (.int i) = atI [.int b.t, .int b.l, opt b.b, opt b.r] i := rfl
end
local macro_rules | `(tactic| trivial) => `(tactic| simp (config := { dsimp := false }) only [*, eq_self, DL.w_ok, DL.w_ex, DL.w_bind, DL.w_bindS, DL.o_some, DL.w_dC, DL.w_var, DL.w_op, DL.a_nil, DL.a_cons, DL.w_tup, DL.w_lst, DL.w_blt, DL.w_call, DL.w_callN, DL.w_or, DL.w_and, DL.w_not, DL.w_neg, DL.w_if, DL.w_chain, DL.t_tru, DL.t_tst, DL.t_and, DL.t_or, DL.t_not, DL.p_no, DL.p_some, DL.w_slc, DL.w_m1, DL.w_m0, DL.w_fld, DL.s_nil, DL.s_brk, DL.s_cnt, DL.s_retN, DL.s_raise, DL.s_seq, DL.s_ret, DL.s_exp, DL.s_if, DL.s_set, DL.s_new, DL.s_cel, DL.s_retC, DL.s_par, DL.s_asg, DL.e_add, DL.e_sub, DL.e_mulR, DL.e_mulL, DL.e_modS, DL.e_divS, DL.e_pow, DL.e_lt, DL.e_le, DL.e_gt, DL.e_ge, DL.e_is, DL.e_isN, DL.e_eqI, DL.e_neI, DL.e_eqS, DL.e_neS, DL.h_bl, DL.h_int, DL.h_non, DL.b_bl, DL.i_int, DL.s_str, DL.l_lst, DL.q_lst, DL.q_tup, DL.c_lst, DL.c_seq, DL.c_lis, DL.x_cel, DL.x_lst, DL.x_tup, DL.at_nn, DL.ix_in, DL.p_cel, DL.e_mulIf, DL.e_mulM, DL.t_len, DL.t_intB, DL.start, DL.s_setIx, DL.s_for, DL.i_rng, DL.i_rng2, DL.w_lc, DL.r_one, DL.s_app, DL.g_cel, DL.w_dct0, DL.w_meth, DL.isC_obj, DL.w_make, DL.w_pick, DL.pick_cons, DL.pick_nil, DL.w_own, DL.w_ne, DL.w_obS, DL.cls_obj, DL.fld_obj, DL.w_fmt, DL.w_fs, DL.w_fsNil, DL.w_fsCons, DL.w_isT, DL.w_revA, DL.s_try, DL.s_raiseI, DL.s_tryP, DL.s_endX, DL.w_isXT, DL.i_any, DL.ia_tup, DL.ia_str, DL.ia_lst, DL.ia_scr, DL.ia_cel, DL.gl_glo, DL.w_callA, DL.s_tryN, DL.s_never, DL.s_fld, DL.w_listN, DL.g_seq, DL.g_cons, DL.g_nil, DL.g_nm, DL.t_yes, DL.wipe_cons, DL.wipe_nil, DL.nn_non, DL.nn_int, DL.nn_str, DL.nn_bl, DL.nn_tup, DL.nn_lst, DL.w_fmR, DL.w_owns, DL.w_nes, DL.w_obSs, DL.w_meths, List.map_cons, List.map_nil, List.length_cons, List.length_nil, List.cons_append, List.nil_append, List.append_nil, List.drop_zero, List.drop_nil, List.drop_succ_cons, List.getElem?_cons_zero, List.getElem?_cons_succ, List.set_cons_zero, List.set_cons_succ, List.replicate_succ, List.replicate_zero, Option.join_some, Option.map_some, if_true, if_false, Bool.not_true, Bool.not_false, true_and, and_true, Nat.reduceAdd, Nat.reduceSub, Nat.reduceLeDiff, decide_true, decide_false, Bool.false_eq_true, Option.bind_some, Int.reduceToNat, List.getElem?_set_self, Int.reduceLT, Int.reduceLE, Int.reduceNeg, Int.reduceSub, Int.reduceAdd, Int.reduceMul, Int.reducePow, Nat.reduceLT, Int.reduceEq, ite_self, c_blk, f_top, f_left, f_bottom, f_right, is_has, is_size, q_four, x_four, opt_none, opt_some, PG.dfl_Block_eq__, PG.dfl_Block_has, PG.dfl_Block_init__, PG.dfl_Block_size, PG.dfl_law_alike, PG.dfl_law_has, PG.dfl_law_made, PG.dfl_law_right, PG.dfl_law_size])
end PG
namespace PG
open PySem PySem.Spec PyProof.Rows L2 DL
local macro_rules | `(tactic| trivial) => `(tactic| simp (config := { dsimp := false }) only [*, eq_self, DL.w_ok, DL.w_ex, DL.w_bind, DL.w_bindS, DL.o_some, DL.w_dC, DL.w_var, DL.w_op, DL.a_nil, DL.a_cons, DL.w_tup, DL.w_lst, DL.w_blt, DL.w_call, DL.w_callN, DL.w_or, DL.w_and, DL.w_not, DL.w_neg, DL.w_if, DL.w_chain, DL.t_tru, DL.t_tst, DL.t_and, DL.t_or, DL.t_not, DL.p_no, DL.p_some, DL.w_slc, DL.w_m1, DL.w_m0, DL.w_fld, DL.s_nil, DL.s_brk, DL.s_cnt, DL.s_retN, DL.s_raise, DL.s_seq, DL.s_ret, DL.s_exp, DL.s_if, DL.s_set, DL.s_new, DL.s_cel, DL.s_retC, DL.s_par, DL.s_asg, DL.e_add, DL.e_sub, DL.e_mulR, DL.e_mulL, DL.e_modS, DL.e_divS, DL.e_pow, DL.e_lt, DL.e_le, DL.e_gt, DL.e_ge, DL.e_is, DL.e_isN, DL.e_eqI, DL.e_neI, DL.e_eqS, DL.e_neS, DL.h_bl, DL.h_int, DL.h_non, DL.b_bl, DL.i_int, DL.s_str, DL.l_lst, DL.q_lst, DL.q_tup, DL.c_lst, DL.c_seq, DL.c_lis, DL.x_cel, DL.x_lst, DL.x_tup, DL.at_nn, DL.ix_in, DL.p_cel, DL.e_mulIf, DL.e_mulM, DL.t_len, DL.t_intB, DL.start, DL.s_setIx, DL.s_for, DL.i_rng, DL.i_rng2, DL.w_lc, DL.r_one, DL.s_app, DL.g_cel, DL.w_dct0, DL.w_meth, DL.isC_obj, DL.w_make, DL.w_pick, DL.pick_cons, DL.pick_nil, DL.w_own, DL.w_ne, DL.w_obS, DL.cls_obj, DL.fld_obj, DL.w_fmt, DL.w_fs, DL.w_fsNil, DL.w_fsCons, DL.w_isT, DL.w_revA, DL.s_try, DL.s_raiseI, DL.s_tryP, DL.s_endX, DL.w_isXT, DL.i_any, DL.ia_tup, DL.ia_str, DL.ia_lst, DL.ia_scr, DL.ia_cel, DL.gl_glo, DL.w_callA, DL.s_tryN, DL.s_never, DL.s_fld, DL.w_listN, DL.g_seq, DL.g_cons, DL.g_nil, DL.g_nm, DL.t_yes, DL.wipe_cons, DL.wipe_nil, DL.nn_non, DL.nn_int, DL.nn_str, DL.nn_bl, DL.nn_tup, DL.nn_lst, DL.w_fmR, DL.w_owns, DL.w_nes, DL.w_obSs, DL.w_meths, DL.w_xf, DL.i_zip, DL.w_revB, DL.s_new2, DL.w_callN2, List.map_cons, List.map_nil, List.length_cons, List.length_nil, List.cons_append, List.nil_append, List.append_nil, List.drop_zero, List.drop_nil, List.drop_succ_cons, List.getElem?_cons_zero, List.getElem?_cons_succ, List.set_cons_zero, List.set_cons_succ, List.replicate_succ, List.replicate_zero, Option.join_some, Option.map_some, if_true, if_false, Bool.not_true, Bool.not_false, true_and, and_true, Nat.reduceAdd, Nat.reduceSub, Nat.reduceLeDiff, decide_true, decide_false, Bool.false_eq_true, Option.bind_some, Int.reduceToNat, List.getElem?_set_self, Int.reduceLT, Int.reduceLE, Int.reduceNeg, Int.reduceSub, Int.reduceAdd, Int.reduceMul, Int.reducePow, Nat.reduceLT, Int.reduceEq, ite_self, t_isS, c_nm, is_shown, f_nblock, f_nrows, f_ncols, c_blk, f_top, f_left, f_bottom, f_right, PG.dfl_Name_eq__, PG.dfl_Name_repr__, PG.dfl_Name_shown, PG.dfl_Name_str__, PG.dfl_by_ends_k22, PG.dfl_checked_manner, PG.dfl_column_text, PG.dfl_far_text, PG.dfl_fast_text, PG.dfl_law_in_letters, PG.dfl_law_read, PG.dfl_law_right_k22, PG.dfl_law_shown, PG.dfl_read_letters, PG.dfl_read_name, PG.dfl_read_numbers, PG.dfl_row_text])
end PG
namespace PG
open PySem PySem.Spec PyProof.Rows L2 DL
section
variable {μ m : List M} {b : Blk} {i j : Nat}
/-- a draw, with one more cell behind -/
theorem Dr.snoc {x : M} (h : Dr μ i m) (hx : cleanM 0 x = true) : Dr (μ ++ [x]) i (m ++ [x]) := by
  obtain ⟨a, b, c, rfl⟩ := h.ex
  exact ⟨h.cln0.snoc hx, by rw [List.length_append]; have := h.lt; omega, a, b, c, by rw [List.set_append_left _ _ h.lt]⟩
end
local macro_rules | `(tactic| trivial) => `(tactic| simp (config := { dsimp := false }) only [*, eq_self, DL.w_ok, DL.w_ex, DL.w_bind, DL.w_bindS, DL.o_some, DL.w_dC, DL.w_var, DL.w_op, DL.a_nil, DL.a_cons, DL.w_tup, DL.w_lst, DL.w_blt, DL.w_call, DL.w_callN, DL.w_or, DL.w_and, DL.w_not, DL.w_neg, DL.w_if, DL.w_chain, DL.t_tru, DL.t_tst, DL.t_and, DL.t_or, DL.t_not, DL.p_no, DL.p_some, DL.w_slc, DL.w_m1, DL.w_m0, DL.w_fld, DL.s_nil, DL.s_brk, DL.s_cnt, DL.s_retN, DL.s_raise, DL.s_seq, DL.s_ret, DL.s_exp, DL.s_if, DL.s_set, DL.s_new, DL.s_cel, DL.s_retC, DL.s_par, DL.s_asg, DL.e_add, DL.e_sub, DL.e_mulR, DL.e_mulL, DL.e_modS, DL.e_divS, DL.e_pow, DL.e_lt, DL.e_le, DL.e_gt, DL.e_ge, DL.e_is, DL.e_isN, DL.e_eqI, DL.e_neI, DL.e_eqS, DL.e_neS, DL.h_bl, DL.h_int, DL.h_non, DL.b_bl, DL.i_int, DL.s_str, DL.l_lst, DL.q_lst, DL.q_tup, DL.c_lst, DL.c_seq, DL.c_lis, DL.x_cel, DL.x_lst, DL.x_tup, DL.at_nn, DL.ix_in, DL.p_cel, DL.e_mulIf, DL.e_mulM, DL.t_len, DL.t_intB, DL.start, DL.s_setIx, DL.s_for, DL.i_rng, DL.i_rng2, DL.w_lc, DL.r_one, DL.s_app, DL.g_cel, DL.w_dct0, DL.w_meth, DL.isC_obj, DL.w_make, DL.w_pick, DL.pick_cons, DL.pick_nil, DL.w_own, DL.w_ne, DL.w_obS, DL.cls_obj, DL.fld_obj, DL.w_fmt, DL.w_fs, DL.w_fsNil, DL.w_fsCons, DL.w_isT, DL.w_revA, DL.s_try, DL.s_raiseI, DL.s_tryP, DL.s_endX, DL.w_isXT, DL.i_any, DL.ia_tup, DL.ia_str, DL.ia_lst, DL.ia_scr, DL.ia_cel, DL.gl_glo, DL.w_callA, DL.s_tryN, DL.s_never, DL.s_fld, DL.w_listN, DL.g_seq, DL.g_cons, DL.g_nil, DL.g_nm, DL.t_yes, DL.wipe_cons, DL.wipe_nil, DL.nn_non, DL.nn_int, DL.nn_str, DL.nn_bl, DL.nn_tup, DL.nn_lst, DL.w_fmR, DL.w_owns, DL.w_nes, DL.w_obSs, DL.w_meths, List.map_cons, List.map_nil, List.length_cons, List.length_nil, List.cons_append, List.nil_append, List.append_nil, List.drop_zero, List.drop_nil, List.drop_succ_cons, List.getElem?_cons_zero, List.getElem?_cons_succ, List.set_cons_zero, List.set_cons_succ, List.replicate_succ, List.replicate_zero, Option.join_some, Option.map_some, if_true, if_false, Bool.not_true, Bool.not_false, true_and, and_true, Nat.reduceAdd, Nat.reduceSub, Nat.reduceLeDiff, decide_true, decide_false, Bool.false_eq_true, Option.bind_some, Int.reduceToNat, List.getElem?_set_self, Int.reduceLT, Int.reduceLE, Int.reduceNeg, Int.reduceSub, Int.reduceAdd, Int.reduceMul, Int.reducePow, Nat.reduceLT, Int.reduceEq, ite_self, c_blk, opt_none, opt_some, q_four, x_four, PG.dfl_law_cells, PG.dfl_law_draw])
end PG
namespace PG
open PySem PySem.Spec PyProof.Rows L2 DL
section
variable {μ m : List M} {b c : Blk} {o p : Option Int} {l : List Nat}
theorem ix0 : opIx m (four b) (.int 0) = some (.int b.t) := rfl
theorem ix1 : opIx m (four b) (.int 1) = some (.int b.l) := rfl
theorem ix2 : opIx m (four b) (.int 2) = some (opt b.b) := rfl
theorem ix3 : opIx m (four b) (.int 3) = some (opt b.r) := rfl
theorem is_optN : opIs m (opt o) .non = some (.bl o.isNone) := by cases o <;> rfl
end
local macro_rules | `(tactic| trivial) => `(tactic| simp (config := { dsimp := false }) only [*, eq_self, DL.w_ok, DL.w_ex, DL.w_bind, DL.w_bindS, DL.o_some, DL.w_dC, DL.w_var, DL.w_op, DL.a_nil, DL.a_cons, DL.w_tup, DL.w_lst, DL.w_blt, DL.w_call, DL.w_callN, DL.w_or, DL.w_and, DL.w_not, DL.w_neg, DL.w_if, DL.w_chain, DL.t_tru, DL.t_tst, DL.t_and, DL.t_or, DL.t_not, DL.p_no, DL.p_some, DL.w_slc, DL.w_m1, DL.w_m0, DL.w_fld, DL.s_nil, DL.s_brk, DL.s_cnt, DL.s_retN, DL.s_raise, DL.s_seq, DL.s_ret, DL.s_exp, DL.s_if, DL.s_set, DL.s_new, DL.s_cel, DL.s_retC, DL.s_par, DL.s_asg, DL.e_add, DL.e_sub, DL.e_mulR, DL.e_mulL, DL.e_modS, DL.e_divS, DL.e_pow, DL.e_lt, DL.e_le, DL.e_gt, DL.e_ge, DL.e_is, DL.e_isN, DL.e_eqI, DL.e_neI, DL.e_eqS, DL.e_neS, DL.h_bl, DL.h_int, DL.h_non, DL.b_bl, DL.i_int, DL.s_str, DL.l_lst, DL.q_lst, DL.q_tup, DL.c_lst, DL.c_seq, DL.c_lis, DL.x_cel, DL.x_lst, DL.x_tup, DL.at_nn, DL.ix_in, DL.p_cel, DL.e_mulIf, DL.e_mulM, DL.t_len, DL.t_intB, DL.start, DL.s_setIx, DL.s_for, DL.i_rng, DL.i_rng2, DL.w_lc, DL.r_one, DL.s_app, DL.g_cel, DL.w_dct0, DL.w_meth, DL.isC_obj, DL.w_make, DL.w_pick, DL.pick_cons, DL.pick_nil, DL.w_own, DL.w_ne, DL.w_obS, DL.cls_obj, DL.fld_obj, DL.w_fmt, DL.w_fs, DL.w_fsNil, DL.w_fsCons, DL.w_isT, DL.w_revA, DL.s_try, DL.s_raiseI, DL.s_tryP, DL.s_endX, DL.w_isXT, DL.i_any, DL.ia_tup, DL.ia_str, DL.ia_lst, DL.ia_scr, DL.ia_cel, DL.gl_glo, DL.w_callA, DL.s_tryN, DL.s_never, DL.s_fld, DL.w_listN, DL.g_seq, DL.g_cons, DL.g_nil, DL.g_nm, DL.t_yes, DL.wipe_cons, DL.wipe_nil, DL.nn_non, DL.nn_int, DL.nn_str, DL.nn_bl, DL.nn_tup, DL.nn_lst, DL.w_fmR, DL.w_owns, DL.w_nes, DL.w_obSs, DL.w_meths, List.map_cons, List.map_nil, List.length_cons, List.length_nil, List.cons_append, List.nil_append, List.append_nil, List.drop_zero, List.drop_nil, List.drop_succ_cons, List.getElem?_cons_zero, List.getElem?_cons_succ, List.set_cons_zero, List.set_cons_succ, List.replicate_succ, List.replicate_zero, Option.join_some, Option.map_some, if_true, if_false, Bool.not_true, Bool.not_false, true_and, and_true, Nat.reduceAdd, Nat.reduceSub, Nat.reduceLeDiff, decide_true, decide_false, Bool.false_eq_true, Option.bind_some, Int.reduceToNat, List.getElem?_set_self, Int.reduceLT, Int.reduceLE, Int.reduceNeg, Int.reduceSub, Int.reduceAdd, Int.reduceMul, Int.reducePow, Nat.reduceLT, Int.reduceEq, ite_self, ix0, ix1, ix2, ix3, is_optN, Option.isNone, c_blk, f_top, f_left, f_bottom, f_right, is_has, is_size, PG.dfl_Block_eq__, PG.dfl_Block_has, PG.dfl_Block_repr__, PG.dfl_Block_size, PG.dfl_Block_str__, PG.dfl_block_of, PG.dfl_is_count, PG.dfl_law_asked, PG.dfl_law_due, PG.dfl_law_has_k08, PG.dfl_law_letters, PG.dfl_law_text, PG.dfl_letters_of, PG.dfl_number_of])
section
variable {μ m : List M} {b c : Blk} {o p : Option Int} {l : List Nat}
theorem cases8 {k : Int} (h0 : 0 ≤ k) (h1 : k < 8) : k = 0 ∨ k = 1 ∨ k = 2 ∨ k = 3 ∨ k = 4 ∨ k = 5 ∨ k = 6 ∨ k = 7 := by omega
end
end PG
namespace PG
open PySem PySem.Spec PyProof.Rows L2 DL
local macro_rules | `(tactic| trivial) => `(tactic| simp (config := { dsimp := false }) only [*, eq_self, DL.w_ok, DL.w_ex, DL.w_bind, DL.w_bindS, DL.o_some, DL.w_dC, DL.w_var, DL.w_op, DL.a_nil, DL.a_cons, DL.w_tup, DL.w_lst, DL.w_blt, DL.w_call, DL.w_callN, DL.w_or, DL.w_and, DL.w_not, DL.w_neg, DL.w_if, DL.w_chain, DL.t_tru, DL.t_tst, DL.t_and, DL.t_or, DL.t_not, DL.p_no, DL.p_some, DL.w_slc, DL.w_m1, DL.w_m0, DL.w_fld, DL.s_nil, DL.s_brk, DL.s_cnt, DL.s_retN, DL.s_raise, DL.s_seq, DL.s_ret, DL.s_exp, DL.s_if, DL.s_set, DL.s_new, DL.s_cel, DL.s_retC, DL.s_par, DL.s_asg, DL.e_add, DL.e_sub, DL.e_mulR, DL.e_mulL, DL.e_modS, DL.e_divS, DL.e_pow, DL.e_lt, DL.e_le, DL.e_gt, DL.e_ge, DL.e_is, DL.e_isN, DL.e_eqI, DL.e_neI, DL.e_eqS, DL.e_neS, DL.h_bl, DL.h_int, DL.h_non, DL.b_bl, DL.i_int, DL.s_str, DL.l_lst, DL.q_lst, DL.q_tup, DL.c_lst, DL.c_seq, DL.c_lis, DL.x_cel, DL.x_lst, DL.x_tup, DL.at_nn, DL.ix_in, DL.p_cel, DL.e_mulIf, DL.e_mulM, DL.t_len, DL.t_intB, DL.start, DL.s_setIx, DL.s_for, DL.i_rng, DL.i_rng2, DL.w_lc, DL.r_one, DL.s_app, DL.g_cel, DL.w_dct0, DL.w_meth, DL.isC_obj, DL.w_make, DL.w_pick, DL.pick_cons, DL.pick_nil, DL.w_own, DL.w_ne, DL.w_obS, DL.cls_obj, DL.fld_obj, DL.w_fmt, DL.w_fs, DL.w_fsNil, DL.w_fsCons, DL.w_isT, DL.w_revA, DL.s_try, DL.s_raiseI, DL.s_tryP, DL.s_endX, DL.w_isXT, DL.i_any, DL.ia_tup, DL.ia_str, DL.ia_lst, DL.ia_scr, DL.ia_cel, DL.gl_glo, DL.w_callA, DL.s_tryN, DL.s_never, DL.s_fld, DL.w_listN, DL.g_seq, DL.g_cons, DL.g_nil, DL.g_nm, DL.t_yes, DL.wipe_cons, DL.wipe_nil, DL.nn_non, DL.nn_int, DL.nn_str, DL.nn_bl, DL.nn_tup, DL.nn_lst, DL.w_fmR, DL.w_owns, DL.w_nes, DL.w_obSs, DL.w_meths, List.map_cons, List.map_nil, List.length_cons, List.length_nil, List.cons_append, List.nil_append, List.append_nil, List.drop_zero, List.drop_nil, List.drop_succ_cons, List.getElem?_cons_zero, List.getElem?_cons_succ, List.set_cons_zero, List.set_cons_succ, List.replicate_succ, List.replicate_zero, Option.join_some, Option.map_some, if_true, if_false, Bool.not_true, Bool.not_false, true_and, and_true, Nat.reduceAdd, Nat.reduceSub, Nat.reduceLeDiff, decide_true, decide_false, Bool.false_eq_true, Option.bind_some, Int.reduceToNat, List.getElem?_set_self, Int.reduceLT, Int.reduceLE, Int.reduceNeg, Int.reduceSub, Int.reduceAdd, Int.reduceMul, Int.reducePow, Nat.reduceLT, Int.reduceEq, ite_self, ix0, ix1, ix2, ix3, opt_none', opt_some', PG.dfl_law_cell, PG.dfl_law_draw])
end PG
namespace PG
open PySem PySem.Spec PyProof.Rows L2 DL
local macro_rules | `(tactic| trivial) => `(tactic| simp (config := { dsimp := false }) only [*, eq_self, DL.w_ok, DL.w_ex, DL.w_bind, DL.w_bindS, DL.o_some, DL.w_dC, DL.w_var, DL.w_op, DL.a_nil, DL.a_cons, DL.w_tup, DL.w_lst, DL.w_blt, DL.w_call, DL.w_callN, DL.w_or, DL.w_and, DL.w_not, DL.w_neg, DL.w_if, DL.w_chain, DL.t_tru, DL.t_tst, DL.t_and, DL.t_or, DL.t_not, DL.p_no, DL.p_some, DL.w_slc, DL.w_m1, DL.w_m0, DL.w_fld, DL.s_nil, DL.s_brk, DL.s_cnt, DL.s_retN, DL.s_raise, DL.s_seq, DL.s_ret, DL.s_exp, DL.s_if, DL.s_set, DL.s_new, DL.s_cel, DL.s_retC, DL.s_par, DL.s_asg, DL.e_add, DL.e_sub, DL.e_mulR, DL.e_mulL, DL.e_modS, DL.e_divS, DL.e_pow, DL.e_lt, DL.e_le, DL.e_gt, DL.e_ge, DL.e_is, DL.e_isN, DL.e_eqI, DL.e_neI, DL.e_eqS, DL.e_neS, DL.h_bl, DL.h_int, DL.h_non, DL.b_bl, DL.i_int, DL.s_str, DL.l_lst, DL.q_lst, DL.q_tup, DL.c_lst, DL.c_seq, DL.c_lis, DL.x_cel, DL.x_lst, DL.x_tup, DL.at_nn, DL.ix_in, DL.p_cel, DL.e_mulIf, DL.e_mulM, DL.t_len, DL.t_intB, DL.start, DL.s_setIx, DL.s_for, DL.i_rng, DL.i_rng2, DL.w_lc, DL.r_one, DL.s_app, DL.g_cel, DL.w_dct0, DL.w_meth, DL.isC_obj, DL.w_make, DL.w_pick, DL.pick_cons, DL.pick_nil, DL.w_own, DL.w_ne, DL.w_obS, DL.cls_obj, DL.fld_obj, DL.w_fmt, DL.w_fs, DL.w_fsNil, DL.w_fsCons, DL.w_isT, DL.w_revA, DL.s_try, DL.s_raiseI, DL.s_tryP, DL.s_endX, DL.w_isXT, DL.i_any, DL.ia_tup, DL.ia_str, DL.ia_lst, DL.ia_scr, DL.ia_cel, DL.gl_glo, DL.w_callA, DL.s_tryN, DL.s_never, DL.s_fld, DL.w_listN, DL.g_seq, DL.g_cons, DL.g_nil, DL.g_nm, DL.t_yes, DL.wipe_cons, DL.wipe_nil, DL.nn_non, DL.nn_int, DL.nn_str, DL.nn_bl, DL.nn_tup, DL.nn_lst, DL.w_fmR, DL.w_owns, DL.w_nes, DL.w_obSs, DL.w_meths, List.map_cons, List.map_nil, List.length_cons, List.length_nil, List.cons_append, List.nil_append, List.append_nil, List.drop_zero, List.drop_nil, List.drop_succ_cons, List.getElem?_cons_zero, List.getElem?_cons_succ, List.set_cons_zero, List.set_cons_succ, List.replicate_succ, List.replicate_zero, Option.join_some, Option.map_some, if_true, if_false, Bool.not_true, Bool.not_false, true_and, and_true, Nat.reduceAdd, Nat.reduceSub, Nat.reduceLeDiff, decide_true, decide_false, Bool.false_eq_true, Option.bind_some, Int.reduceToNat, List.getElem?_set_self, Int.reduceLT, Int.reduceLE, Int.reduceNeg, Int.reduceSub, Int.reduceAdd, Int.reduceMul, Int.reducePow, Nat.reduceLT, Int.reduceEq, ite_self, ix0, ix1, ix2, ix3, c_blk, f_top, f_left, f_bottom, f_right, PG.dfl_Block_eq__, PG.dfl_Block_has, PG.dfl_Block_init__, PG.dfl_Block_repr__, PG.dfl_Block_size, PG.dfl_Block_str__, PG.dfl_block_of, PG.dfl_is_count, PG.dfl_is_end, PG.dfl_law_asked, PG.dfl_law_block, PG.dfl_law_cell, PG.dfl_law_cell_at, PG.dfl_law_draw, PG.dfl_law_due, PG.dfl_law_has_k08, PG.dfl_law_k08, PG.dfl_law_letters, PG.dfl_law_text, PG.dfl_law_well, PG.dfl_letters_of, PG.dfl_number_of])
section
variable {μ m : List M} {b c : Blk} {i : Nat} {ns : List Int}
theorem cut_scr2 {lo hi : Option Int} (hn : ns.length ≤ 63) : ∃ as : List Int, slc m lo hi (.scr ns) = some (.lst (as.map D.int)) ∧ as.length ≤ 63 := by
  refine ⟨(ns.drop (HT.sIx ns.length 0 lo)).take (HT.sIx ns.length ns.length hi - HT.sIx ns.length 0 lo), ?_, ?_⟩
  · show some (D.lst (cutL (ns.map D.int) lo hi)) = _
    unfold cutL
    rw [List.map_take, List.map_drop, List.length_map]
  · rw [List.length_take, List.length_drop]
    omega
theorem add_ints2 {as bs : List Int} (h : as.length + bs.length ≤ 1000) : opAdd m (.lst (as.map D.int)) (.lst (bs.map D.int)) = some (.lst ((as ++ bs).map D.int)) := by
  rw [e_addL l_lst l_lst, if_pos (by rw [List.length_map, List.length_map]; omega), List.map_append]
end
end PG
namespace PG
open PySem PySem.Spec PyProof.Rows L2 DL
local macro_rules | `(tactic| trivial) => `(tactic| simp (config := { dsimp := false }) only [*, eq_self, DL.w_ok, DL.w_ex, DL.w_bind, DL.w_bindS, DL.o_some, DL.w_dC, DL.w_var, DL.w_op, DL.a_nil, DL.a_cons, DL.w_tup, DL.w_lst, DL.w_blt, DL.w_call, DL.w_callN, DL.w_or, DL.w_and, DL.w_not, DL.w_neg, DL.w_if, DL.w_chain, DL.t_tru, DL.t_tst, DL.t_and, DL.t_or, DL.t_not, DL.p_no, DL.p_some, DL.w_slc, DL.w_m1, DL.w_m0, DL.w_fld, DL.s_nil, DL.s_brk, DL.s_cnt, DL.s_retN, DL.s_raise, DL.s_seq, DL.s_ret, DL.s_exp, DL.s_if, DL.s_set, DL.s_new, DL.s_cel, DL.s_retC, DL.s_par, DL.s_asg, DL.e_add, DL.e_sub, DL.e_mulR, DL.e_mulL, DL.e_modS, DL.e_divS, DL.e_pow, DL.e_lt, DL.e_le, DL.e_gt, DL.e_ge, DL.e_is, DL.e_isN, DL.e_eqI, DL.e_neI, DL.e_eqS, DL.e_neS, DL.h_bl, DL.h_int, DL.h_non, DL.b_bl, DL.i_int, DL.s_str, DL.l_lst, DL.q_lst, DL.q_tup, DL.c_lst, DL.c_seq, DL.c_lis, DL.x_cel, DL.x_lst, DL.x_tup, DL.at_nn, DL.ix_in, DL.p_cel, DL.e_mulIf, DL.e_mulM, DL.t_len, DL.t_intB, DL.start, DL.s_setIx, DL.s_for, DL.i_rng, DL.i_rng2, DL.w_lc, DL.r_one, DL.s_app, DL.g_cel, DL.w_dct0, DL.w_meth, DL.isC_obj, DL.w_make, DL.w_pick, DL.pick_cons, DL.pick_nil, DL.w_own, DL.w_ne, DL.w_obS, DL.cls_obj, DL.fld_obj, DL.w_fmt, DL.w_fs, DL.w_fsNil, DL.w_fsCons, DL.w_isT, DL.w_revA, DL.s_try, DL.s_raiseI, DL.s_tryP, DL.s_endX, DL.w_isXT, DL.i_any, DL.ia_tup, DL.ia_str, DL.ia_lst, DL.ia_scr, DL.ia_cel, DL.gl_glo, DL.w_callA, DL.s_tryN, DL.s_never, DL.s_fld, DL.w_listN, DL.g_seq, DL.g_cons, DL.g_nil, DL.g_nm, DL.t_yes, DL.wipe_cons, DL.wipe_nil, DL.nn_non, DL.nn_int, DL.nn_str, DL.nn_bl, DL.nn_tup, DL.nn_lst, DL.w_fmR, DL.w_owns, DL.w_nes, DL.w_obSs, DL.w_meths, DL.w_xf, DL.i_zip, DL.w_revB, DL.s_new2, DL.w_callN2, List.map_cons, List.map_nil, List.length_cons, List.length_nil, List.cons_append, List.nil_append, List.append_nil, List.drop_zero, List.drop_nil, List.drop_succ_cons, List.getElem?_cons_zero, List.getElem?_cons_succ, List.set_cons_zero, List.set_cons_succ, List.replicate_succ, List.replicate_zero, Option.join_some, Option.map_some, if_true, if_false, Bool.not_true, Bool.not_false, true_and, and_true, Nat.reduceAdd, Nat.reduceSub, Nat.reduceLeDiff, decide_true, decide_false, Bool.false_eq_true, Option.bind_some, Int.reduceToNat, List.getElem?_set_self, Int.reduceLT, Int.reduceLE, Int.reduceNeg, Int.reduceSub, Int.reduceAdd, Int.reduceMul, Int.reducePow, Nat.reduceLT, Int.reduceEq, ite_self, jx0, jx1, jx2, jx3, mk0, mk1, pairOf, PG.dfl_Name_eq__, PG.dfl_Name_shown, PG.dfl_Name_str__, PG.dfl_by_ends_k22, PG.dfl_checked_manner, PG.dfl_column_text, PG.dfl_far_text, PG.dfl_fast_text, PG.dfl_law_base, PG.dfl_law_draw, PG.dfl_law_far, PG.dfl_law_in_letters, PG.dfl_law_in_numbers, PG.dfl_law_is_cell, PG.dfl_law_is_columns, PG.dfl_law_is_rows, PG.dfl_law_put, PG.dfl_law_right_k23, PG.dfl_read_letters, PG.dfl_read_name, PG.dfl_read_numbers, PG.dfl_row_text])
local macro_rules | `(tactic| trivial) => `(tactic| simp (config := { dsimp := false }) only [*, eq_self, DL.w_ok, DL.w_ex, DL.w_bind, DL.w_bindS, DL.o_some, DL.w_dC, DL.w_var, DL.w_op, DL.a_nil, DL.a_cons, DL.w_tup, DL.w_lst, DL.w_blt, DL.w_call, DL.w_callN, DL.w_or, DL.w_and, DL.w_not, DL.w_neg, DL.w_if, DL.w_chain, DL.t_tru, DL.t_tst, DL.t_and, DL.t_or, DL.t_not, DL.p_no, DL.p_some, DL.w_slc, DL.w_m1, DL.w_m0, DL.w_fld, DL.s_nil, DL.s_brk, DL.s_cnt, DL.s_retN, DL.s_raise, DL.s_seq, DL.s_ret, DL.s_exp, DL.s_if, DL.s_set, DL.s_new, DL.s_cel, DL.s_retC, DL.s_par, DL.s_asg, DL.e_add, DL.e_sub, DL.e_mulR, DL.e_mulL, DL.e_modS, DL.e_divS, DL.e_pow, DL.e_lt, DL.e_le, DL.e_gt, DL.e_ge, DL.e_is, DL.e_isN, DL.e_eqI, DL.e_neI, DL.e_eqS, DL.e_neS, DL.h_bl, DL.h_int, DL.h_non, DL.b_bl, DL.i_int, DL.s_str, DL.l_lst, DL.q_lst, DL.q_tup, DL.c_lst, DL.c_seq, DL.c_lis, DL.x_cel, DL.x_lst, DL.x_tup, DL.at_nn, DL.ix_in, DL.p_cel, DL.e_mulIf, DL.e_mulM, DL.t_len, DL.t_intB, DL.start, DL.s_setIx, DL.s_for, DL.i_rng, DL.i_rng2, DL.w_lc, DL.r_one, DL.s_app, DL.g_cel, DL.w_dct0, DL.w_meth, DL.isC_obj, DL.w_make, DL.w_pick, DL.pick_cons, DL.pick_nil, DL.w_own, DL.w_ne, DL.w_obS, DL.cls_obj, DL.fld_obj, DL.w_fmt, DL.w_fs, DL.w_fsNil, DL.w_fsCons, DL.w_isT, DL.w_revA, DL.s_try, DL.s_raiseI, DL.s_tryP, DL.s_endX, DL.w_isXT, DL.i_any, DL.ia_tup, DL.ia_str, DL.ia_lst, DL.ia_scr, DL.ia_cel, DL.gl_glo, DL.w_callA, DL.s_tryN, DL.s_never, DL.s_fld, DL.w_listN, DL.g_seq, DL.g_cons, DL.g_nil, DL.g_nm, DL.t_yes, DL.wipe_cons, DL.wipe_nil, DL.nn_non, DL.nn_int, DL.nn_str, DL.nn_bl, DL.nn_tup, DL.nn_lst, DL.w_fmR, DL.w_owns, DL.w_nes, DL.w_obSs, DL.w_meths, DL.w_xf, DL.i_zip, DL.w_revB, DL.s_new2, DL.w_callN2, List.map_cons, List.map_nil, List.length_cons, List.length_nil, List.cons_append, List.nil_append, List.append_nil, List.drop_zero, List.drop_nil, List.drop_succ_cons, List.getElem?_cons_zero, List.getElem?_cons_succ, List.set_cons_zero, List.set_cons_succ, List.replicate_succ, List.replicate_zero, Option.join_some, Option.map_some, if_true, if_false, Bool.not_true, Bool.not_false, true_and, and_true, Nat.reduceAdd, Nat.reduceSub, Nat.reduceLeDiff, decide_true, decide_false, Bool.false_eq_true, Option.bind_some, Int.reduceToNat, List.getElem?_set_self, Int.reduceLT, Int.reduceLE, Int.reduceNeg, Int.reduceSub, Int.reduceAdd, Int.reduceMul, Int.reducePow, Nat.reduceLT, Int.reduceEq, ite_self, jx0, jx1, jx2, jx3, mk0, mk1, t_isS, c_nm, is_shown, f_nblock, f_nrows, f_ncols, c_blk, f_top, f_left, f_bottom, f_right, PG.dfl_Name_eq__, PG.dfl_Name_shown, PG.dfl_Name_str__, PG.dfl_by_ends_k22, PG.dfl_checked_manner, PG.dfl_column_text, PG.dfl_far_text, PG.dfl_fast_text, PG.dfl_law_base, PG.dfl_law_draw, PG.dfl_law_far, PG.dfl_law_in_letters, PG.dfl_law_in_numbers, PG.dfl_law_is_cell, PG.dfl_law_is_columns, PG.dfl_law_is_rows, PG.dfl_law_put, PG.dfl_law_right_k23, PG.dfl_read_letters, PG.dfl_read_name, PG.dfl_read_numbers, PG.dfl_row_text])
end PG
namespace PG
open PySem PySem.Spec PyProof.Rows L2 DL
/-! asked of a name, due of its numbers and marks -/
local macro_rules | `(tactic| trivial) => `(tactic| simp (config := { dsimp := false }) only [*, eq_self, DL.w_ok, DL.w_ex, DL.w_bind, DL.w_bindS, DL.o_some, DL.w_dC, DL.w_var, DL.w_op, DL.a_nil, DL.a_cons, DL.w_tup, DL.w_lst, DL.w_blt, DL.w_call, DL.w_callN, DL.w_or, DL.w_and, DL.w_not, DL.w_neg, DL.w_if, DL.w_chain, DL.t_tru, DL.t_tst, DL.t_and, DL.t_or, DL.t_not, DL.p_no, DL.p_some, DL.w_slc, DL.w_m1, DL.w_m0, DL.w_fld, DL.s_nil, DL.s_brk, DL.s_cnt, DL.s_retN, DL.s_raise, DL.s_seq, DL.s_ret, DL.s_exp, DL.s_if, DL.s_set, DL.s_new, DL.s_cel, DL.s_retC, DL.s_par, DL.s_asg, DL.e_add, DL.e_sub, DL.e_mulR, DL.e_mulL, DL.e_modS, DL.e_divS, DL.e_pow, DL.e_lt, DL.e_le, DL.e_gt, DL.e_ge, DL.e_is, DL.e_isN, DL.e_eqI, DL.e_neI, DL.e_eqS, DL.e_neS, DL.h_bl, DL.h_int, DL.h_non, DL.b_bl, DL.i_int, DL.s_str, DL.l_lst, DL.q_lst, DL.q_tup, DL.c_lst, DL.c_seq, DL.c_lis, DL.x_cel, DL.x_lst, DL.x_tup, DL.at_nn, DL.ix_in, DL.p_cel, DL.e_mulIf, DL.e_mulM, DL.t_len, DL.t_intB, DL.start, DL.s_setIx, DL.s_for, DL.i_rng, DL.i_rng2, DL.w_lc, DL.r_one, DL.s_app, DL.g_cel, DL.w_dct0, DL.w_meth, DL.isC_obj, DL.w_make, DL.w_pick, DL.pick_cons, DL.pick_nil, DL.w_own, DL.w_ne, DL.w_obS, DL.cls_obj, DL.fld_obj, DL.w_fmt, DL.w_fs, DL.w_fsNil, DL.w_fsCons, DL.w_isT, DL.w_revA, DL.s_try, DL.s_raiseI, DL.s_tryP, DL.s_endX, DL.w_isXT, DL.i_any, DL.ia_tup, DL.ia_str, DL.ia_lst, DL.ia_scr, DL.ia_cel, DL.gl_glo, DL.w_callA, DL.s_tryN, DL.s_never, DL.s_fld, DL.w_listN, DL.g_seq, DL.g_cons, DL.g_nil, DL.g_nm, DL.t_yes, DL.wipe_cons, DL.wipe_nil, DL.nn_non, DL.nn_int, DL.nn_str, DL.nn_bl, DL.nn_tup, DL.nn_lst, DL.w_fmR, DL.w_owns, DL.w_nes, DL.w_obSs, DL.w_meths, DL.w_xf, DL.i_zip, DL.w_revB, DL.s_new2, DL.w_callN2, List.map_cons, List.map_nil, List.length_cons, List.length_nil, List.cons_append, List.nil_append, List.append_nil, List.drop_zero, List.drop_nil, List.drop_succ_cons, List.getElem?_cons_zero, List.getElem?_cons_succ, List.set_cons_zero, List.set_cons_succ, List.replicate_succ, List.replicate_zero, Option.join_some, Option.map_some, if_true, if_false, Bool.not_true, Bool.not_false, true_and, and_true, Nat.reduceAdd, Nat.reduceSub, Nat.reduceLeDiff, decide_true, decide_false, Bool.false_eq_true, Option.bind_some, Int.reduceToNat, List.getElem?_set_self, Int.reduceLT, Int.reduceLE, Int.reduceNeg, Int.reduceSub, Int.reduceAdd, Int.reduceMul, Int.reducePow, Nat.reduceLT, Int.reduceEq, ite_self, b0, b1, c_nm, f_nblock, f_nrows, f_ncols, c_blk, f_top, f_left, f_bottom, f_right, is_cop, gx_r, gx_c, cx24, ex24, ex24c, PG.dfl_Name_copied_k24, PG.dfl_Name_eq__, PG.dfl_Name_repr__, PG.dfl_Name_shown, PG.dfl_Name_str__, PG.dfl_by_ends_k22, PG.dfl_checked_manner, PG.dfl_column_text, PG.dfl_far_text, PG.dfl_fast_text, PG.dfl_law_asked_k29, PG.dfl_law_fields, PG.dfl_law_told, PG.dfl_read_letters, PG.dfl_read_name, PG.dfl_read_numbers, PG.dfl_row_text])
section
variable {μ m : List M} {n n' : Nm} {p q : Int} {o : Int × Int}
theorem clean_dueN : clean 0 (dueN n) = true := by
  show (clean 0 (four n.b) && (true && (true && true))) = true
  rw [clean_four]; rfl
end
section
variable {μ m : List M} {n n' : Nm} {p q kind : Int} {o : Int × Int}
theorem due_plain : DL.plain (dueN n) = true ∧ dep (dueN n) ≤ 64 := by
  obtain ⟨⟨t, l, q, r⟩, u, d, v, w⟩ := n
  cases q <;> cases r <;> exact ⟨by with_unfolding_all rfl, Nat.le_of_ble_eq_true (by with_unfolding_all rfl)⟩
end
local macro_rules | `(tactic| trivial) => `(tactic| simp (config := { dsimp := false }) only [*, eq_self, DL.w_ok, DL.w_ex, DL.w_bind, DL.w_bindS, DL.o_some, DL.w_dC, DL.w_var, DL.w_op, DL.a_nil, DL.a_cons, DL.w_tup, DL.w_lst, DL.w_blt, DL.w_call, DL.w_callN, DL.w_or, DL.w_and, DL.w_not, DL.w_neg, DL.w_if, DL.w_chain, DL.t_tru, DL.t_tst, DL.t_and, DL.t_or, DL.t_not, DL.p_no, DL.p_some, DL.w_slc, DL.w_m1, DL.w_m0, DL.w_fld, DL.s_nil, DL.s_brk, DL.s_cnt, DL.s_retN, DL.s_raise, DL.s_seq, DL.s_ret, DL.s_exp, DL.s_if, DL.s_set, DL.s_new, DL.s_cel, DL.s_retC, DL.s_par, DL.s_asg, DL.e_add, DL.e_sub, DL.e_mulR, DL.e_mulL, DL.e_modS, DL.e_divS, DL.e_pow, DL.e_lt, DL.e_le, DL.e_gt, DL.e_ge, DL.e_is, DL.e_isN, DL.e_eqI, DL.e_neI, DL.e_eqS, DL.e_neS, DL.h_bl, DL.h_int, DL.h_non, DL.b_bl, DL.i_int, DL.s_str, DL.l_lst, DL.q_lst, DL.q_tup, DL.c_lst, DL.c_seq, DL.c_lis, DL.x_cel, DL.x_lst, DL.x_tup, DL.at_nn, DL.ix_in, DL.p_cel, DL.e_mulIf, DL.e_mulM, DL.t_len, DL.t_intB, DL.start, DL.s_setIx, DL.s_for, DL.i_rng, DL.i_rng2, DL.w_lc, DL.r_one, DL.s_app, DL.g_cel, DL.w_dct0, DL.w_meth, DL.isC_obj, DL.w_make, DL.w_pick, DL.pick_cons, DL.pick_nil, DL.w_own, DL.w_ne, DL.w_obS, DL.cls_obj, DL.fld_obj, DL.w_fmt, DL.w_fs, DL.w_fsNil, DL.w_fsCons, DL.w_isT, DL.w_revA, DL.s_try, DL.s_raiseI, DL.s_tryP, DL.s_endX, DL.w_isXT, DL.i_any, DL.ia_tup, DL.ia_str, DL.ia_lst, DL.ia_scr, DL.ia_cel, DL.gl_glo, DL.w_callA, DL.s_tryN, DL.s_never, DL.s_fld, DL.w_listN, DL.g_seq, DL.g_cons, DL.g_nil, DL.g_nm, DL.t_yes, DL.wipe_cons, DL.wipe_nil, DL.nn_non, DL.nn_int, DL.nn_str, DL.nn_bl, DL.nn_tup, DL.nn_lst, DL.w_fmR, DL.w_owns, DL.w_nes, DL.w_obSs, DL.w_meths, DL.w_xf, DL.i_zip, DL.w_revB, DL.s_new2, DL.w_callN2, List.map_cons, List.map_nil, List.length_cons, List.length_nil, List.cons_append, List.nil_append, List.append_nil, List.drop_zero, List.drop_nil, List.drop_succ_cons, List.getElem?_cons_zero, List.getElem?_cons_succ, List.set_cons_zero, List.set_cons_succ, List.replicate_succ, List.replicate_zero, Option.join_some, Option.map_some, if_true, if_false, Bool.not_true, Bool.not_false, true_and, and_true, Nat.reduceAdd, Nat.reduceSub, Nat.reduceLeDiff, decide_true, decide_false, Bool.false_eq_true, Option.bind_some, Int.reduceToNat, List.getElem?_set_self, Int.reduceLT, Int.reduceLE, Int.reduceNeg, Int.reduceSub, Int.reduceAdd, Int.reduceMul, Int.reducePow, Nat.reduceLT, Int.reduceEq, ite_self, c_nm, t_isS, is_shown, PG.dfl_Name_copied_k24, PG.dfl_Name_eq__, PG.dfl_Name_repr__, PG.dfl_Name_shown, PG.dfl_Name_str__, PG.dfl_by_ends_k22, PG.dfl_checked_manner, PG.dfl_column_text, PG.dfl_far_text, PG.dfl_fast_text, PG.dfl_law_asked_k29, PG.dfl_law_fields, PG.dfl_law_told, PG.dfl_read_letters, PG.dfl_read_name, PG.dfl_read_numbers, PG.dfl_row_text])
end PG
namespace PG
open PySem PySem.Spec PyProof.Rows L2 DL
section
variable {m : List M} {n n' : Nm}
theorem eq_dueN : opEq m (dueN n) (dueN n') = some (.bl (decide (n = n'))) := by
  have e1 : eqOk (dueN n) (dueN n') = true := by
    unfold eqOk
    rw [due_plain.1, due_plain.1, decide_eq_true due_plain.2, decide_eq_true due_plain.2]; rfl
  show (if eqOk (dueN n) (dueN n') = true then some (D.bl (eqB (dueN n) (dueN n'))) else none) = _
  rw [if_pos e1]
  have e2 : eqB (dueN n) (dueN n') = (eqB (four n.b) (four n'.b) && (((n.u == n'.u) && ((n.d == n'.d) && true)) && (((n.l == n'.l) && ((n.r == n'.r) && true)) && true))) := rfl
  rw [e2, eqB_four]
  obtain ⟨b, u, d, l, r⟩ := n
  obtain ⟨b', u', d', l', r'⟩ := n'
  simp only [Nm.mk.injEq]
  congr 2
  by_cases h1 : b = b' <;> by_cases h2 : u = u' <;> by_cases h3 : d = d' <;> by_cases h4 : l = l' <;> by_cases h5 : r = r' <;> simp [h1, h2, h3, h4, h5]
end
local macro_rules | `(tactic| trivial) => `(tactic| simp (config := { dsimp := false }) only [*, eq_self, DL.w_ok, DL.w_ex, DL.w_bind, DL.w_bindS, DL.o_some, DL.w_dC, DL.w_var, DL.w_op, DL.a_nil, DL.a_cons, DL.w_tup, DL.w_lst, DL.w_blt, DL.w_call, DL.w_callN, DL.w_or, DL.w_and, DL.w_not, DL.w_neg, DL.w_if, DL.w_chain, DL.t_tru, DL.t_tst, DL.t_and, DL.t_or, DL.t_not, DL.p_no, DL.p_some, DL.w_slc, DL.w_m1, DL.w_m0, DL.w_fld, DL.s_nil, DL.s_brk, DL.s_cnt, DL.s_retN, DL.s_raise, DL.s_seq, DL.s_ret, DL.s_exp, DL.s_if, DL.s_set, DL.s_new, DL.s_cel, DL.s_retC, DL.s_par, DL.s_asg, DL.e_add, DL.e_sub, DL.e_mulR, DL.e_mulL, DL.e_modS, DL.e_divS, DL.e_pow, DL.e_lt, DL.e_le, DL.e_gt, DL.e_ge, DL.e_is, DL.e_isN, DL.e_eqI, DL.e_neI, DL.e_eqS, DL.e_neS, DL.h_bl, DL.h_int, DL.h_non, DL.b_bl, DL.i_int, DL.s_str, DL.l_lst, DL.q_lst, DL.q_tup, DL.c_lst, DL.c_seq, DL.c_lis, DL.x_cel, DL.x_lst, DL.x_tup, DL.at_nn, DL.ix_in, DL.p_cel, DL.e_mulIf, DL.e_mulM, DL.t_len, DL.t_intB, DL.start, DL.s_setIx, DL.s_for, DL.i_rng, DL.i_rng2, DL.w_lc, DL.r_one, DL.s_app, DL.g_cel, DL.w_dct0, DL.w_meth, DL.isC_obj, DL.w_make, DL.w_pick, DL.pick_cons, DL.pick_nil, DL.w_own, DL.w_ne, DL.w_obS, DL.cls_obj, DL.fld_obj, DL.w_fmt, DL.w_fs, DL.w_fsNil, DL.w_fsCons, DL.w_isT, DL.w_revA, DL.s_try, DL.s_raiseI, DL.s_tryP, DL.s_endX, DL.w_isXT, DL.i_any, DL.ia_tup, DL.ia_str, DL.ia_lst, DL.ia_scr, DL.ia_cel, DL.gl_glo, DL.w_callA, DL.s_tryN, DL.s_never, DL.s_fld, DL.w_listN, DL.g_seq, DL.g_cons, DL.g_nil, DL.g_nm, DL.t_yes, DL.wipe_cons, DL.wipe_nil, DL.nn_non, DL.nn_int, DL.nn_str, DL.nn_bl, DL.nn_tup, DL.nn_lst, DL.w_fmR, DL.w_owns, DL.w_nes, DL.w_obSs, DL.w_meths, DL.w_xf, DL.i_zip, DL.w_revB, DL.s_new2, DL.w_callN2, List.map_cons, List.map_nil, List.length_cons, List.length_nil, List.cons_append, List.nil_append, List.append_nil, List.drop_zero, List.drop_nil, List.drop_succ_cons, List.getElem?_cons_zero, List.getElem?_cons_succ, List.set_cons_zero, List.set_cons_succ, List.replicate_succ, List.replicate_zero, Option.join_some, Option.map_some, if_true, if_false, Bool.not_true, Bool.not_false, true_and, and_true, Nat.reduceAdd, Nat.reduceSub, Nat.reduceLeDiff, decide_true, decide_false, Bool.false_eq_true, Option.bind_some, Int.reduceToNat, List.getElem?_set_self, Int.reduceLT, Int.reduceLE, Int.reduceNeg, Int.reduceSub, Int.reduceAdd, Int.reduceMul, Int.reducePow, Nat.reduceLT, Int.reduceEq, ite_self, PG.dfl_law_copied_k24, PG.dfl_law_due_k29, PG.dfl_law_far, PG.dfl_law_in_letters, PG.dfl_law_in_numbers, PG.dfl_law_put])
end PG
namespace PG
open PySem PySem.Spec PyProof.Rows L2 DL
local macro_rules | `(tactic| trivial) => `(tactic| simp (config := { dsimp := false }) only [*, eq_self, DL.w_ok, DL.w_ex, DL.w_bind, DL.w_bindS, DL.o_some, DL.w_dC, DL.w_var, DL.w_op, DL.a_nil, DL.a_cons, DL.w_tup, DL.w_lst, DL.w_blt, DL.w_call, DL.w_callN, DL.w_or, DL.w_and, DL.w_not, DL.w_neg, DL.w_if, DL.w_chain, DL.t_tru, DL.t_tst, DL.t_and, DL.t_or, DL.t_not, DL.p_no, DL.p_some, DL.w_slc, DL.w_m1, DL.w_m0, DL.w_fld, DL.s_nil, DL.s_brk, DL.s_cnt, DL.s_retN, DL.s_raise, DL.s_seq, DL.s_ret, DL.s_exp, DL.s_if, DL.s_set, DL.s_new, DL.s_cel, DL.s_retC, DL.s_par, DL.s_asg, DL.e_add, DL.e_sub, DL.e_mulR, DL.e_mulL, DL.e_modS, DL.e_divS, DL.e_pow, DL.e_lt, DL.e_le, DL.e_gt, DL.e_ge, DL.e_is, DL.e_isN, DL.e_eqI, DL.e_neI, DL.e_eqS, DL.e_neS, DL.h_bl, DL.h_int, DL.h_non, DL.b_bl, DL.i_int, DL.s_str, DL.l_lst, DL.q_lst, DL.q_tup, DL.c_lst, DL.c_seq, DL.c_lis, DL.x_cel, DL.x_lst, DL.x_tup, DL.at_nn, DL.ix_in, DL.p_cel, DL.e_mulIf, DL.e_mulM, DL.t_len, DL.t_intB, DL.start, DL.s_setIx, DL.s_for, DL.i_rng, DL.i_rng2, DL.w_lc, DL.r_one, DL.s_app, DL.g_cel, DL.w_dct0, DL.w_meth, DL.isC_obj, DL.w_make, DL.w_pick, DL.pick_cons, DL.pick_nil, DL.w_own, DL.w_ne, DL.w_obS, DL.cls_obj, DL.fld_obj, DL.w_fmt, DL.w_fs, DL.w_fsNil, DL.w_fsCons, DL.w_isT, DL.w_revA, DL.s_try, DL.s_raiseI, DL.s_tryP, DL.s_endX, DL.w_isXT, DL.i_any, DL.ia_tup, DL.ia_str, DL.ia_lst, DL.ia_scr, DL.ia_cel, DL.gl_glo, DL.w_callA, DL.s_tryN, DL.s_never, DL.s_fld, DL.w_listN, DL.g_seq, DL.g_cons, DL.g_nil, DL.g_nm, DL.t_yes, DL.wipe_cons, DL.wipe_nil, DL.nn_non, DL.nn_int, DL.nn_str, DL.nn_bl, DL.nn_tup, DL.nn_lst, DL.w_fmR, DL.w_owns, DL.w_nes, DL.w_obSs, DL.w_meths, DL.w_xf, DL.i_zip, DL.w_revB, DL.s_new2, DL.w_callN2, List.map_cons, List.map_nil, List.length_cons, List.length_nil, List.cons_append, List.nil_append, List.append_nil, List.drop_zero, List.drop_nil, List.drop_succ_cons, List.getElem?_cons_zero, List.getElem?_cons_succ, List.set_cons_zero, List.set_cons_succ, List.replicate_succ, List.replicate_zero, Option.join_some, Option.map_some, if_true, if_false, Bool.not_true, Bool.not_false, true_and, and_true, Nat.reduceAdd, Nat.reduceSub, Nat.reduceLeDiff, decide_true, decide_false, Bool.false_eq_true, Option.bind_some, Int.reduceToNat, List.getElem?_set_self, Int.reduceLT, Int.reduceLE, Int.reduceNeg, Int.reduceSub, Int.reduceAdd, Int.reduceMul, Int.reducePow, Nat.reduceLT, Int.reduceEq, ite_self, PG.dfl_Block_init__, PG.dfl_is_count, PG.dfl_is_end, PG.dfl_law_refused, PG.dfl_law_word])
end PG
namespace PG
open PySem PySem.Spec PyProof.Rows L2 DL
/-! what becomes of Name(..) -/
local macro_rules | `(tactic| trivial) => `(tactic| simp (config := { dsimp := false }) only [*, eq_self, DL.w_ok, DL.w_ex, DL.w_bind, DL.w_bindS, DL.o_some, DL.w_dC, DL.w_var, DL.w_op, DL.a_nil, DL.a_cons, DL.w_tup, DL.w_lst, DL.w_blt, DL.w_call, DL.w_callN, DL.w_or, DL.w_and, DL.w_not, DL.w_neg, DL.w_if, DL.w_chain, DL.t_tru, DL.t_tst, DL.t_and, DL.t_or, DL.t_not, DL.p_no, DL.p_some, DL.w_slc, DL.w_m1, DL.w_m0, DL.w_fld, DL.s_nil, DL.s_brk, DL.s_cnt, DL.s_retN, DL.s_raise, DL.s_seq, DL.s_ret, DL.s_exp, DL.s_if, DL.s_set, DL.s_new, DL.s_cel, DL.s_retC, DL.s_par, DL.s_asg, DL.e_add, DL.e_sub, DL.e_mulR, DL.e_mulL, DL.e_modS, DL.e_divS, DL.e_pow, DL.e_lt, DL.e_le, DL.e_gt, DL.e_ge, DL.e_is, DL.e_isN, DL.e_eqI, DL.e_neI, DL.e_eqS, DL.e_neS, DL.h_bl, DL.h_int, DL.h_non, DL.b_bl, DL.i_int, DL.s_str, DL.l_lst, DL.q_lst, DL.q_tup, DL.c_lst, DL.c_seq, DL.c_lis, DL.x_cel, DL.x_lst, DL.x_tup, DL.at_nn, DL.ix_in, DL.p_cel, DL.e_mulIf, DL.e_mulM, DL.t_len, DL.t_intB, DL.start, DL.s_setIx, DL.s_for, DL.i_rng, DL.i_rng2, DL.w_lc, DL.r_one, DL.s_app, DL.g_cel, DL.w_dct0, DL.w_meth, DL.isC_obj, DL.w_make, DL.w_pick, DL.pick_cons, DL.pick_nil, DL.w_own, DL.w_ne, DL.w_obS, DL.cls_obj, DL.fld_obj, DL.w_fmt, DL.w_fs, DL.w_fsNil, DL.w_fsCons, DL.w_isT, DL.w_revA, DL.s_try, DL.s_raiseI, DL.s_tryP, DL.s_endX, DL.w_isXT, DL.i_any, DL.ia_tup, DL.ia_str, DL.ia_lst, DL.ia_scr, DL.ia_cel, DL.gl_glo, DL.w_callA, DL.s_tryN, DL.s_never, DL.s_fld, DL.w_listN, DL.g_seq, DL.g_cons, DL.g_nil, DL.g_nm, DL.t_yes, DL.wipe_cons, DL.wipe_nil, DL.nn_non, DL.nn_int, DL.nn_str, DL.nn_bl, DL.nn_tup, DL.nn_lst, DL.w_fmR, DL.w_owns, DL.w_nes, DL.w_obSs, DL.w_meths, DL.w_xf, DL.i_zip, DL.w_revB, DL.s_new2, DL.w_callN2, List.map_cons, List.map_nil, List.length_cons, List.length_nil, List.cons_append, List.nil_append, List.append_nil, List.drop_zero, List.drop_nil, List.drop_succ_cons, List.getElem?_cons_zero, List.getElem?_cons_succ, List.set_cons_zero, List.set_cons_succ, List.replicate_succ, List.replicate_zero, Option.join_some, Option.map_some, if_true, if_false, Bool.not_true, Bool.not_false, true_and, and_true, Nat.reduceAdd, Nat.reduceSub, Nat.reduceLeDiff, decide_true, decide_false, Bool.false_eq_true, Option.bind_some, Int.reduceToNat, List.getElem?_set_self, Int.reduceLT, Int.reduceLE, Int.reduceNeg, Int.reduceSub, Int.reduceAdd, Int.reduceMul, Int.reducePow, Nat.reduceLT, Int.reduceEq, ite_self, isB_bl', isT_mk, mk0, mk1, is_optN', Bool.not_true, Bool.not_false, c_blk, f_top, f_left, f_bottom, f_right, is_size, is_has, c_nm, f_nblock, f_nrows, f_ncols, PG.dfl_Block_size, PG.dfl_Name_init__, PG.dfl_are_marks, PG.dfl_is_columns, PG.dfl_is_rows, PG.dfl_law_is_columns, PG.dfl_law_is_rows, PG.dfl_law_tried, PG.dfl_law_word, PG.dfl_may_be])
section
variable {μ m : List M} {b : Blk} {d0 d1 d2 : D} {u d l r : Bool}
theorem nm_badB (hc : Cln μ) (h : ∀ m, bIsU (.inr "Block") m [d0, .glo "Block"] = some (.bl false)) (i1 : ∀ m, opIs m d1 .non = some (.bl false)) (i2 : ∀ m, opIs m d2 .non = some (.bl false)) : makeD "Name" 4 G_Name_init__ [d0, d1, d2] μ = .ex "NoName" [] [] μ := by
  refine makeD_ex hc rfl ?_
  apply eq_ex
  unfold G_Name_init__
  refine wo_fn rfl ?_
  unfold D_Name_init__
  have hc2 : Cln (μ ++ [M.obj "Name" [] []]) := hc.snoc rfl
  have h := h (μ ++ [M.obj "Name" [] []])
  have i1 := i1 (μ ++ [M.obj "Name" [] []])
  have i2 := i2 (μ ++ [M.obj "Name" [] []])
  trivial
  all_goals exact ⟨rfl, List.take_length⟩
theorem nm_badR (hc : Cln μ) (a : ∀ m, Cln m → G_are_marks [d1] m = .ok (.bl false) m) (i1 : ∀ m, opIs m d1 .non = some (.bl false)) (i2 : ∀ m, opIs m d2 .non = some (.bl false)) : makeD "Name" 4 G_Name_init__ [blkD b, d1, d2] μ = .ex "NoName" [] [] μ := by
  have hc2 : Cln (μ ++ [M.obj "Name" [] []]) := hc.snoc rfl
  refine makeD_ex hc rfl ?_
  apply eq_ex
  unfold G_Name_init__
  refine wo_fn rfl ?_
  unfold D_Name_init__
  have h := isBlk (μ := μ ++ [M.obj "Name" [] []]) (b := b)
  have i1 := i1 (μ ++ [M.obj "Name" [] []])
  have i2 := i2 (μ ++ [M.obj "Name" [] []])
  have a := a _ hc2
  trivial
  all_goals exact ⟨rfl, List.take_length⟩
theorem nm_badC (hc : Cln μ) (a : ∀ m, Cln m → G_are_marks [d2] m = .ok (.bl false) m) (i2 : ∀ m, opIs m d2 .non = some (.bl false)) : makeD "Name" 4 G_Name_init__ [blkD b, mkB u d, d2] μ = .ex "NoName" [] [] μ := by
  have hc2 : Cln (μ ++ [M.obj "Name" [] []]) := hc.snoc rfl
  refine makeD_ex hc rfl ?_
  apply eq_ex
  unfold G_Name_init__
  refine wo_fn rfl ?_
  unfold D_Name_init__
  have h := isBlk (μ := μ ++ [M.obj "Name" [] []]) (b := b)
  have i1 : ∀ a b, opIs (μ ++ [M.obj "Name" [] []]) (mkB a b) .non = some (.bl false) := fun _ _ => rfl
  have i2 := i2 (μ ++ [M.obj "Name" [] []])
  have a := a _ hc2
  have a1 := x_marks (a := u) (b := d) hc2
  trivial
  all_goals exact ⟨rfl, List.take_length⟩
def mayU (b : Blk) (u d : Bool) : Bool := mayB u d (!isCo b) b.b (one1 b)
def mayS (b : Blk) (l r : Bool) : Bool := mayB l r (!isR b) b.r (one1 b)
theorem nm_not (hc : Cln μ) (hb : b.Fg) (h : (mayU b u d && mayS b l r) = false) : makeD "Name" 4 G_Name_init__ [blkD b, mkB u d, mkB l r] μ = .ex "NoName" [] [] μ := by
  have hc2 : Cln (μ ++ [M.obj "Name" [] []]) := hc.snoc rfl
  refine makeD_ex hc rfl ?_
  apply eq_ex
  unfold G_Name_init__
  refine wo_fn rfl ?_
  unfold D_Name_init__
  have i1 : ∀ a b, opIs (μ ++ [M.obj "Name" [] []]) (mkB a b) .non = some (.bl false) := fun _ _ => rfl
  have i2 := isBlk (μ := μ ++ [M.obj "Name" [] []]) (b := b)
  have a1 := x_marks (a := u) (b := d) hc2
  have a2 := x_marks (a := l) (b := r) hc2
  have a3 := x_size hc2 hb.ok hb.sm
  have a4 := x_isC (b := b) hc2
  have a5 := x_isR (b := b) hc2
  have a6 := x_mayB (a := u) (b := d) (st := !isCo b) (o := b.b) (one := one1 b) hc2
  have a7 := x_mayB (a := l) (b := r) (st := !isR b) (o := b.r) (one := one1 b) hc2
  rw [show mayB u d (!isCo b) b.b (one1 b) = mayU b u d from rfl] at a6
  rw [show mayB l r (!isR b) b.r (one1 b) = mayS b l r from rfl] at a7
  have e1 := @size_is1 (μ ++ [M.obj "Name" [] []]) b
  cases h1 : mayU b u d
  · rw [h1] at a6
    clear h h1 hb
    trivial
    all_goals exact ⟨rfl, List.take_length⟩
  · have h2 : mayS b l r = false := by rw [h1] at h; exact h
    rw [h1] at a6
    rw [h2] at a7
    clear h h1 h2 hb
    trivial
    all_goals exact ⟨rfl, List.take_length⟩
/-! the law's own try -/
theorem x_triedX {w : Int} (hc : Cln μ) (cl : cleans 0 [d0, d1, d2] = true) (w0 : 0 ≤ w) (w1 : w < 3) (mk : makeD "Name" 4 G_Name_init__ [d0, d1, d2] μ = .ex "NoName" [] [] μ) : G_law_tried [d0, d1, d2, .int w] μ = .ok (.tup [.str "refused", .str "name"]) μ := by
  apply eq_ok
  unfold G_law_tried
  refine wo_fn rfl ?_
  unfold D_law_tried
  have cx : (["NoCell", "NoColumn", "NoBlock", "NoName"] : List Str).contains "NoName" = true := by with_unfolding_all rfl
  have ex : exSub "NoName" (.inr "CellError") = true := by with_unfolding_all rfl
  have wd := x_word_name hc
  have nm : (noX (.tup [.str "refused", .str "name"]) && μ.all noXM) = true := by rw [cln_noX hc]; rfl
  have three : w = 0 ∨ w = 1 ∨ w = 2 := by omega
  clear w0 w1 cl
  rcases three with rfl | rfl | rfl
  · trivial
    exact fr_same hc rfl ⟨rfl, rfl⟩
  · trivial
    exact fr_same hc rfl ⟨rfl, rfl⟩
  · trivial
    exact fr_same hc rfl ⟨rfl, rfl⟩
theorem x_triedO {n : Nm} {w : Int} (hc : Cln μ) (w0 : 0 ≤ w) (w1 : w < 3) (hn : n.Ok) : G_law_tried [blkD n.b, mkB n.u n.d, mkB n.l n.r, .int w] μ = .ok (.tup [.str "told", .tup [blkD n.b, mkB n.u n.d, mkB n.l n.r]]) μ := by
  apply eq_ok
  unfold G_law_tried
  refine wo_fn rfl ?_
  unfold D_law_tried
  have mk := x_name hc hn
  have cl : clean 0 (.tup [.str "told", .tup [blkD n.b, mkB n.u n.d, mkB n.l n.r]]) = true := by
    show (true && ((clean 0 (blkD n.b) && true) && true)) = true
    rw [clean_blk]; rfl
  have cl := Hide.mk cl
  have three : w = 0 ∨ w = 1 ∨ w = 2 := by omega
  clear w0 w1 hn
  rcases three with rfl | rfl | rfl
  · trivial
    exact fr_same hc cl.out ⟨rfl, rfl⟩
  · trivial
    exact fr_same hc cl.out ⟨rfl, rfl⟩
  · trivial
    exact fr_same hc cl.out ⟨rfl, rfl⟩
/-! whether a block may have the marks, by the law -/
variable {e3 : Option D} {g : Bool}
theorem mayA (hc : Cln m) : dOr (dNot (dOr (dOp opIx (dVar 1) (dC (.int 0))) (dOp opIx (dVar 1) (dC (.int 1))))) (dNot (dCall 1 G_law_is_columns [] (aCons (dVar 0) aNil)))
    [some (four b), some (mkB u d), some (mkB l r), e3] m = .ok (.bl (!(u || d) || !isCo b)) m := by
  have c1 := x_lisC (b := b) hc
  apply eq_ok
  cases u <;> cases d <;> trivial <;> rfl
theorem mayC (hc : Cln m) : dOr (dNot (dOr (dOp opIx (dVar 2) (dC (.int 0))) (dOp opIx (dVar 2) (dC (.int 1))))) (dNot (dCall 1 G_law_is_rows [] (aCons (dVar 0) aNil)))
    [some (four b), some (mkB u d), some (mkB l r), e3] m = .ok (.bl (!(l || r) || !isR b)) m := by
  have c1 := x_lisR (b := b) hc
  apply eq_ok
  cases l <;> cases r <;> trivial <;> rfl
theorem mayE : dOr (dNot (dOp opIx (dVar 1) (dC (.int 1)))) (dOp opIsN (dOp opIx (dVar 0) (dC (.int 2))) (dC .non))
    [some (four b), some (mkB u d), some (mkB l r), e3] m = .ok (.bl (!d || b.b.isSome)) m := by
  have i1 : opIx m (four b) (.int 2) = some (opt b.b) := rfl
  have i2 := @isN_opt m b.b
  apply eq_ok
  cases d <;> trivial <;> rfl
theorem mayF : dOr (dNot (dOp opIx (dVar 2) (dC (.int 1)))) (dOp opIsN (dOp opIx (dVar 0) (dC (.int 3))) (dC .non))
    [some (four b), some (mkB u d), some (mkB l r), e3] m = .ok (.bl (!r || b.r.isSome)) m := by
  have i1 : opIx m (four b) (.int 3) = some (opt b.r) := rfl
  have i2 := @isN_opt m b.r
  apply eq_ok
  cases r <;> trivial <;> rfl
end
end PG
namespace PG
open PySem PySem.Spec PyProof.Rows L2 DL
/-! the sixteen ways to mark -/
def mayL (b : Blk) (u d l r : Bool) : Bool := mayU b u d && mayS b l r
theorem one_facts {b : Blk} (h : one1 b = true) : b.b.isNone = false ∧ b.r.isNone = false := by
  obtain ⟨t, l, q, r⟩ := b
  have h := of_decide_eq_true h
  cases q with
  | none => cases h
  | some q =>
    cases r with
    | none => cases h
    | some r => exact ⟨rfl, rfl⟩
theorem may_one {b : Blk} {u d l r : Bool} (h : one1 b = true) : mayL b u d l r = ((u == d) && (l == r)) := by
  obtain ⟨h1, h2⟩ := one_facts h
  have c : isCo b = false := by unfold isCo; rw [h1]; simp
  have k : isR b = false := by unfold isR; rw [h2]; simp
  unfold mayL mayU mayS mayB
  rw [h, c, k, h1, h2]
  cases u <;> cases d <;> cases l <;> cases r <;> rfl
theorem may_not {b : Blk} {u d l r : Bool} (h : one1 b = false) : mayL b u d l r = ((((!(u || d) || !isCo b) && (!d || b.b.isSome)) && (!(l || r) || !isR b)) && (!r || b.r.isSome)) := by
  unfold mayL mayU mayS
  rw [h]
  generalize isCo b = c
  generalize isR b = k
  rcases b with ⟨t, l', q, w⟩
  cases q <;> cases w <;> cases u <;> cases d <;> cases l <;> cases r <;> cases c <;> cases k <;> rfl
theorem eqB2 {m : List M} {x y : Bool} : opEq m (.bl x) (.bl y) = some (.bl (x == y)) := rfl
local macro_rules | `(tactic| trivial) => `(tactic| simp (config := { dsimp := false }) only [*, eq_self, DL.w_ok, DL.w_ex, DL.w_bind, DL.w_bindS, DL.o_some, DL.w_dC, DL.w_var, DL.w_op, DL.a_nil, DL.a_cons, DL.w_tup, DL.w_lst, DL.w_blt, DL.w_call, DL.w_callN, DL.w_or, DL.w_and, DL.w_not, DL.w_neg, DL.w_if, DL.w_chain, DL.t_tru, DL.t_tst, DL.t_and, DL.t_or, DL.t_not, DL.p_no, DL.p_some, DL.w_slc, DL.w_m1, DL.w_m0, DL.w_fld, DL.s_nil, DL.s_brk, DL.s_cnt, DL.s_retN, DL.s_raise, DL.s_seq, DL.s_ret, DL.s_exp, DL.s_if, DL.s_set, DL.s_new, DL.s_cel, DL.s_retC, DL.s_par, DL.s_asg, DL.e_add, DL.e_sub, DL.e_mulR, DL.e_mulL, DL.e_modS, DL.e_divS, DL.e_pow, DL.e_lt, DL.e_le, DL.e_gt, DL.e_ge, DL.e_is, DL.e_isN, DL.e_eqI, DL.e_neI, DL.e_eqS, DL.e_neS, DL.h_bl, DL.h_int, DL.h_non, DL.b_bl, DL.i_int, DL.s_str, DL.l_lst, DL.q_lst, DL.q_tup, DL.c_lst, DL.c_seq, DL.c_lis, DL.x_cel, DL.x_lst, DL.x_tup, DL.at_nn, DL.ix_in, DL.p_cel, DL.e_mulIf, DL.e_mulM, DL.t_len, DL.t_intB, DL.start, DL.s_setIx, DL.s_for, DL.i_rng, DL.i_rng2, DL.w_lc, DL.r_one, DL.s_app, DL.g_cel, DL.w_dct0, DL.w_meth, DL.isC_obj, DL.w_make, DL.w_pick, DL.pick_cons, DL.pick_nil, DL.w_own, DL.w_ne, DL.w_obS, DL.cls_obj, DL.fld_obj, DL.w_fmt, DL.w_fs, DL.w_fsNil, DL.w_fsCons, DL.w_isT, DL.w_revA, DL.s_try, DL.s_raiseI, DL.s_tryP, DL.s_endX, DL.w_isXT, DL.i_any, DL.ia_tup, DL.ia_str, DL.ia_lst, DL.ia_scr, DL.ia_cel, DL.gl_glo, DL.w_callA, DL.s_tryN, DL.s_never, DL.s_fld, DL.w_listN, DL.g_seq, DL.g_cons, DL.g_nil, DL.g_nm, DL.t_yes, DL.wipe_cons, DL.wipe_nil, DL.nn_non, DL.nn_int, DL.nn_str, DL.nn_bl, DL.nn_tup, DL.nn_lst, DL.w_fmR, DL.w_owns, DL.w_nes, DL.w_obSs, DL.w_meths, DL.w_xf, DL.i_zip, DL.w_revB, DL.s_new2, DL.w_callN2, List.map_cons, List.map_nil, List.length_cons, List.length_nil, List.cons_append, List.nil_append, List.append_nil, List.drop_zero, List.drop_nil, List.drop_succ_cons, List.getElem?_cons_zero, List.getElem?_cons_succ, List.set_cons_zero, List.set_cons_succ, List.replicate_succ, List.replicate_zero, Option.join_some, Option.map_some, if_true, if_false, Bool.not_true, Bool.not_false, true_and, and_true, Nat.reduceAdd, Nat.reduceSub, Nat.reduceLeDiff, decide_true, decide_false, Bool.false_eq_true, Option.bind_some, Int.reduceToNat, List.getElem?_set_self, Int.reduceLT, Int.reduceLE, Int.reduceNeg, Int.reduceSub, Int.reduceAdd, Int.reduceMul, Int.reducePow, Nat.reduceLT, Int.reduceEq, ite_self, isB_bl', isT_mk, mk0, mk1, Bool.not_true, Bool.not_false, PG.dfl_Block_eq__, PG.dfl_law_is_cell, PG.dfl_law_is_columns, PG.dfl_law_is_rows, PG.dfl_law_may])
section
variable {μ m : List M} {b : Blk} {u d l r : Bool}
theorem x_may (hc : Cln μ) (hb : b.Ok) : G_law_may [four b, mkB u d, mkB l r] μ = .ok (.bl (mayL b u d l r)) μ := by
  apply eq_ok
  unfold G_law_may
  refine wo_fn rfl ?_
  unfold D_law_may
  have ic := x_lisCell hc hb
  have fin : ∀ x : Bool, x = mayL b u d l r → FR μ.length μ (.bl x) (fun z m' => z = .bl (mayL b u d l r) ∧ m' = μ) := fun x e => by rw [e]; exact fr_same hc rfl ⟨rfl, rfl⟩
  cases h : one1 b
  · have e := may_not (u := u) (d := d) (l := l) (r := r) h
    have fin := Hide.mk fin
    have e := Hide.mk e
    rw [h] at ic
    have a1 := fun e3 => mayA (b := b) (u := u) (d := d) (l := l) (r := r) (e3 := e3) hc
    have a2 := fun e3 => mayC (b := b) (u := u) (d := d) (l := l) (r := r) (e3 := e3) hc
    have a3 := fun e3 => mayE (m := μ) (b := b) (u := u) (d := d) (l := l) (r := r) (e3 := e3)
    have a4 := fun e3 => mayF (m := μ) (b := b) (u := u) (d := d) (l := l) (r := r) (e3 := e3)
    clear h
    trivial
    generalize (!(u || d) || !isCo b) = x1
    generalize (!d || b.b.isSome) = x2
    generalize (!(l || r) || !isR b) = x3
    generalize (!r || b.r.isSome) = x4
    have f : ∀ x y : Bool, x = y → FR μ.length μ (.bl x) (fun z m' => z = .bl y ∧ m' = μ) := fun x y e => by rw [e]; exact fr_same hc rfl ⟨rfl, rfl⟩
    cases x1 <;> cases x2 <;> cases x3 <;> cases x4 <;> exact f _ _ rfl
  · have e := may_one (u := u) (d := d) (l := l) (r := r) h
    rw [h] at ic
    have q := @eqB2 μ
    clear h
    trivial
    generalize (u == d) = x1
    generalize (l == r) = x2
    have f : ∀ x y : Bool, x = y → FR μ.length μ (.bl x) (fun z m' => z = .bl y ∧ m' = μ) := fun x y e => by rw [e]; exact fr_same hc rfl ⟨rfl, rfl⟩
    cases x1 <;> cases x2 <;> exact f _ _ rfl
open Classical in
noncomputable def neOv (tb : List (Str × GF)) (μ : List M) (x y : D) : Option D := if x = y ∧ (∃ l, x = .tup l) ∧ okO tb μ 4 x then some (.bl false) else opNe μ x y
open Classical in
theorem w_neO {tb : List (Str × GF)} {da db : DE} {env : En} {Q : D → List M → Prop} {X : XP} {k : Kt Q X} : WO (dNeO tb da db env μ) Q X k = WO (da env μ) (fun x m1 => WO (db env m1) (fun y m2 => OP (neOv tb m2 x y) (fun d => Q d m2) ⟨⟩) X ⟨⟩) X ⟨⟩ := by
  unfold dNeO
  cases da env μ with
  | ok x m1 =>
    show WO ((db env m1).bind _) Q X k = WO (db env m1) _ X ⟨⟩
    cases db env m1 with
    | ok y m2 =>
      show WO (if x = y ∧ (∃ l, x = .tup l) ∧ okO tb m2 4 x then Out.ok (.bl false) m2 else match opNe m2 x y with | some z => .ok z m2 | none => .stuck) Q X k = OP (neOv tb m2 x y) (fun d => Q d m2) ⟨⟩
      unfold neOv
      by_cases h : x = y ∧ (∃ l, x = .tup l) ∧ okO tb m2 4 x
      · rw [if_pos h, if_pos h]; rfl
      · rw [if_neg h, if_neg h]
        cases opNe m2 x y <;> rfl
    | ex _ _ _ _ => rfl
    | stuck => rfl
  | ex _ _ _ _ => rfl
  | stuck => rfl
theorem neO_told (hc : Cln m) : neOv [("Block", G_Block_eq__)] m (.tup [.str "told", .tup [blkD b, mkB u d, mkB l r]]) (.tup [.str "told", .tup [blkD b, mkB u d, mkB l r]]) = some (.bl false) := by
  unfold neOv
  refine if_pos ⟨rfl, ⟨_, rfl⟩, ?_⟩
  intro x hx
  simp only [List.mem_cons, List.not_mem_nil, or_false] at hx
  rcases hx with rfl | rfl
  · rfl
  · intro x hx
    simp only [List.mem_cons, List.not_mem_nil, or_false] at hx
    rcases hx with rfl | rfl | rfl
    · refine ⟨G_Block_eq__, by with_unfolding_all rfl, ?_⟩
      have e := x_eq (b := b) (c := b) hc
      rw [decide_eq_true rfl] at e
      exact e
    · intro x hx
      simp only [List.mem_cons, List.not_mem_nil, or_false] at hx
      rcases hx with rfl | rfl <;> rfl
    · intro x hx
      simp only [List.mem_cons, List.not_mem_nil, or_false] at hx
      rcases hx with rfl | rfl <;> rfl
theorem neO_ref {tb : List (Str × GF)} : neOv tb m (.tup [.str "refused", .str "name"]) (.tup [.str "refused", .str "name"]) = some (.bl false) := by
  unfold neOv
  split
  · rfl
  · exact ne_same (x := .tup [.str "refused", .str "name"]) rfl rfl rfl (by decide)
theorem ne_ref : opNe m (.tup [.str "refused", .str "name"]) (.tup [.str "refused", .str "name"]) = some (.bl false) := ne_same (x := .tup [.str "refused", .str "name"]) rfl rfl rfl (by decide)
end
end PG
namespace PG
open PySem PySem.Spec PyProof.Rows L2 DL
/-- what is no marks -/
structure BadM (d : D) : Prop where
  cl : clean 0 d = true
  nn : ∀ m, opIs m d .non = some (.bl false)
  am : ∀ m, Cln m → G_are_marks [d] m = .ok (.bl false) m
/-- what is no block -/
structure Thg (d : D) : Prop where
  cl : clean 0 d = true
  bk : ∀ m, bIsU (.inr "Block") m [d, .glo "Block"] = some (.bl false)
theorem iota16 : iota 0 16 = [.int 0, .int 1, .int 2, .int 3, .int 4, .int 5, .int 6, .int 7, .int 8, .int 9, .int 10, .int 11, .int 12, .int 13, .int 14, .int 15] := rfl
local macro_rules | `(tactic| trivial) => `(tactic| simp (config := { dsimp := false }) only [*, eq_self, DL.w_ok, DL.w_ex, DL.w_bind, DL.w_bindS, DL.o_some, DL.w_dC, DL.w_var, DL.w_op, DL.a_nil, DL.a_cons, DL.w_tup, DL.w_lst, DL.w_blt, DL.w_call, DL.w_callN, DL.w_or, DL.w_and, DL.w_not, DL.w_neg, DL.w_if, DL.w_chain, DL.t_tru, DL.t_tst, DL.t_and, DL.t_or, DL.t_not, DL.p_no, DL.p_some, DL.w_slc, DL.w_m1, DL.w_m0, DL.w_fld, DL.s_nil, DL.s_brk, DL.s_cnt, DL.s_retN, DL.s_raise, DL.s_seq, DL.s_ret, DL.s_exp, DL.s_if, DL.s_set, DL.s_new, DL.s_cel, DL.s_retC, DL.s_par, DL.s_asg, DL.e_add, DL.e_sub, DL.e_mulR, DL.e_mulL, DL.e_modS, DL.e_divS, DL.e_pow, DL.e_lt, DL.e_le, DL.e_gt, DL.e_ge, DL.e_is, DL.e_isN, DL.e_eqI, DL.e_neI, DL.e_eqS, DL.e_neS, DL.h_bl, DL.h_int, DL.h_non, DL.b_bl, DL.i_int, DL.s_str, DL.l_lst, DL.q_lst, DL.q_tup, DL.c_lst, DL.c_seq, DL.c_lis, DL.x_cel, DL.x_lst, DL.x_tup, DL.at_nn, DL.ix_in, DL.p_cel, DL.e_mulIf, DL.e_mulM, DL.t_len, DL.t_intB, DL.start, DL.s_setIx, DL.s_for, DL.i_rng, DL.i_rng2, DL.w_lc, DL.r_one, DL.s_app, DL.g_cel, DL.w_dct0, DL.w_meth, DL.isC_obj, DL.w_make, DL.w_pick, DL.pick_cons, DL.pick_nil, DL.w_own, DL.w_ne, DL.w_obS, DL.cls_obj, DL.fld_obj, DL.w_fmt, DL.w_fs, DL.w_fsNil, DL.w_fsCons, DL.w_isT, DL.w_revA, DL.s_try, DL.s_raiseI, DL.s_tryP, DL.s_endX, DL.w_isXT, DL.i_any, DL.ia_tup, DL.ia_str, DL.ia_lst, DL.ia_scr, DL.ia_cel, DL.gl_glo, DL.w_callA, DL.s_tryN, DL.s_never, DL.s_fld, DL.w_listN, DL.g_seq, DL.g_cons, DL.g_nil, DL.g_nm, DL.t_yes, DL.wipe_cons, DL.wipe_nil, DL.nn_non, DL.nn_int, DL.nn_str, DL.nn_bl, DL.nn_tup, DL.nn_lst, DL.w_fmR, DL.w_owns, DL.w_nes, DL.w_obSs, DL.w_meths, DL.w_xf, DL.i_zip, DL.w_revB, DL.s_new2, DL.w_callN2, List.map_cons, List.map_nil, List.length_cons, List.length_nil, List.cons_append, List.nil_append, List.append_nil, List.drop_zero, List.drop_nil, List.drop_succ_cons, List.getElem?_cons_zero, List.getElem?_cons_succ, List.set_cons_zero, List.set_cons_succ, List.replicate_succ, List.replicate_zero, Option.join_some, Option.map_some, if_true, if_false, Bool.not_true, Bool.not_false, true_and, and_true, Nat.reduceAdd, Nat.reduceSub, Nat.reduceLeDiff, decide_true, decide_false, Bool.false_eq_true, Option.bind_some, Int.reduceToNat, List.getElem?_set_self, Int.reduceLT, Int.reduceLE, Int.reduceNeg, Int.reduceSub, Int.reduceAdd, Int.reduceMul, Int.reducePow, Nat.reduceLT, Int.reduceEq, ite_self, isB_bl', isT_mk, mk0, mk1, Bool.not_true, Bool.not_false, w_lcCons, w_lcNil, PG.dfl_are_marks, PG.dfl_law_bad, PG.dfl_law_draw])
section
variable {μ m : List M} {b : Blk} {u d l r : Bool}
theorem bad_1 (hc : Cln μ) : G_are_marks [.lst [.bl false, .bl false]] μ = .ok (.bl false) μ := by
  apply eq_ok
  unfold G_are_marks
  refine wo_fn rfl ?_
  unfold D_are_marks
  have i : bIsU (.inl "tuple") μ [.lst [.bl false, .bl false], .ty "tuple"] = some (.bl false) := by with_unfolding_all rfl
  trivial
  exact fr_same hc rfl ⟨rfl, rfl⟩
theorem bad_t {l : List D} (hc : Cln μ) (h : l.length ≠ 2) (h2 : l.length ≤ 10) : G_are_marks [.tup l] μ = .ok (.bl false) μ := by
  apply eq_ok
  unfold G_are_marks
  refine wo_fn rfl ?_
  unfold D_are_marks
  have i : bIsU (.inl "tuple") μ [.tup l, .ty "tuple"] = some (.bl true) := by with_unfolding_all rfl
  have ln : bLen μ [.tup l] = some (.int l.length) := rfl
  have e : opEq μ (.int (l.length : Int)) (.int 2) = some (.bl false) := by
    show some (D.bl (((l.length : Int) == 2))) = _
    have : ((l.length : Int) == 2) = false := beq_eq_false_iff_ne.mpr (by omega)
    rw [this]
  clear h h2
  trivial
  exact fr_same hc rfl ⟨rfl, rfl⟩
theorem bad_2 {x y : D} {p q : Bool} (hc : Cln μ) (h1 : bIsU (.inl "bool") μ [x, .ty "bool"] = some (.bl p)) (h2 : bIsU (.inl "bool") μ [y, .ty "bool"] = some (.bl q)) (h : (p && q) = false) : G_are_marks [.tup [x, y]] μ = .ok (.bl false) μ := by
  apply eq_ok
  unfold G_are_marks
  refine wo_fn rfl ?_
  unfold D_are_marks
  have i : bIsU (.inl "tuple") μ [.tup [x, y], .ty "tuple"] = some (.bl true) := by with_unfolding_all rfl
  have ln : bLen μ [.tup [x, y]] = some (.int 2) := rfl
  have e : opEq μ (.int 2) (.int 2) = some (.bl true) := rfl
  have it : itAny μ (.tup [x, y]) = some ([x, y], fun _ => True) := rfl
  have al : bAll μ [.lst [.bl p, .bl q]] = some (.bl (p && q)) := by cases p <;> cases q <;> rfl
  rw [h] at al
  clear h
  trivial
  exact fr_same hc rfl ⟨rfl, rfl⟩
theorem bad_o {x : D} (hc : Cln μ) (i : bIsU (.inl "tuple") μ [x, .ty "tuple"] = some (.bl false)) : G_are_marks [x] μ = .ok (.bl false) μ := by
  apply eq_ok
  unfold G_are_marks
  refine wo_fn rfl ?_
  unfold D_are_marks
  trivial
  exact fr_same hc rfl ⟨rfl, rfl⟩
theorem isB_i {x : Int} : bIsU (.inl "bool") m [.int x, .ty "bool"] = some (.bl false) := by with_unfolding_all rfl
theorem isB_n : bIsU (.inl "bool") m [.non, .ty "bool"] = some (.bl false) := by with_unfolding_all rfl
theorem bad_k {i : Nat} {Q : D → List M → Prop} {X : XP} (h : Dr μ i m) (k : ∀ d m', BadM d → Dr μ i m' → Q d m') : WO (G_law_bad [.cel i] m) Q X ⟨⟩ := by
  refine WO.use (Q' := fun x m' => BadM x ∧ Dr μ i m') (k' := ⟨⟩) ?_ (by rintro x m' ⟨h1, h2⟩; exact k x m' h1 h2)
  unfold G_law_bad
  refine wo_fn rfl ?_
  unfold D_law_bad
  trivial
  refine draw_k h.self (by decide) (by decide) fun w m1 w0 w1 d1 => ?_
  have dd := h.trans d1
  have ten : w = 0 ∨ w = 1 ∨ w = 2 ∨ w = 3 ∨ w = 4 ∨ w = 5 ∨ w = 6 ∨ w = 7 ∨ w = 8 ∨ w = 9 := by omega
  clear w0 w1
  have fin : ∀ (x : D), clean 0 x = true → (∀ m, opIs m x .non = some (.bl false)) → (∀ m, Cln m → G_are_marks [x] m = .ok (.bl false) m) → FR m.length m1 x (fun x m' => BadM x ∧ Dr μ i m') := fun x h1 h2 h3 => d1.fr h1 ⟨⟨h1, h2, h3⟩, dd⟩
  have fin := Hide.mk fin
  rcases ten with rfl | rfl | rfl | rfl | rfl | rfl | rfl | rfl | rfl | rfl <;> trivial
  · exact fin.out _ rfl (fun _ => rfl) fun m hm => bad_1 hm
  · exact fin.out _ rfl (fun _ => rfl) fun m hm => bad_t hm (by decide) (by decide)
  · exact fin.out _ rfl (fun _ => rfl) fun m hm => bad_t hm (by decide) (by decide)
  · exact fin.out _ rfl (fun _ => rfl) fun m hm => bad_2 hm isB_i isB_i rfl
  · exact fin.out _ rfl (fun _ => rfl) fun m hm => bad_2 hm isB_i isB_bl' rfl
  · exact fin.out _ rfl (fun _ => rfl) fun m hm => bad_o hm (by with_unfolding_all rfl)
  · exact fin.out _ rfl (fun _ => rfl) fun m hm => bad_o hm (by with_unfolding_all rfl)
  · exact fin.out _ rfl (fun _ => rfl) fun m hm => bad_o hm (by with_unfolding_all rfl)
  · exact fin.out _ rfl (fun _ => rfl) fun m hm => bad_2 hm isB_n isB_n rfl
  · exact fin.out _ rfl (fun _ => rfl) fun m hm => bad_t hm (by decide) (by decide)
end
end PG
namespace PG
open PySem PySem.Spec PyProof.Rows L2 DL
local macro_rules | `(tactic| trivial) => `(tactic| simp (config := { dsimp := false }) only [*, eq_self, DL.w_ok, DL.w_ex, DL.w_bind, DL.w_bindS, DL.o_some, DL.w_dC, DL.w_var, DL.w_op, DL.a_nil, DL.a_cons, DL.w_tup, DL.w_lst, DL.w_blt, DL.w_call, DL.w_callN, DL.w_or, DL.w_and, DL.w_not, DL.w_neg, DL.w_if, DL.w_chain, DL.t_tru, DL.t_tst, DL.t_and, DL.t_or, DL.t_not, DL.p_no, DL.p_some, DL.w_slc, DL.w_m1, DL.w_m0, DL.w_fld, DL.s_nil, DL.s_brk, DL.s_cnt, DL.s_retN, DL.s_raise, DL.s_seq, DL.s_ret, DL.s_exp, DL.s_if, DL.s_set, DL.s_new, DL.s_cel, DL.s_retC, DL.s_par, DL.s_asg, DL.e_add, DL.e_sub, DL.e_mulR, DL.e_mulL, DL.e_modS, DL.e_divS, DL.e_pow, DL.e_lt, DL.e_le, DL.e_gt, DL.e_ge, DL.e_is, DL.e_isN, DL.e_eqI, DL.e_neI, DL.e_eqS, DL.e_neS, DL.h_bl, DL.h_int, DL.h_non, DL.b_bl, DL.i_int, DL.s_str, DL.l_lst, DL.q_lst, DL.q_tup, DL.c_lst, DL.c_seq, DL.c_lis, DL.x_cel, DL.x_lst, DL.x_tup, DL.at_nn, DL.ix_in, DL.p_cel, DL.e_mulIf, DL.e_mulM, DL.t_len, DL.t_intB, DL.start, DL.s_setIx, DL.s_for, DL.i_rng, DL.i_rng2, DL.w_lc, DL.r_one, DL.s_app, DL.g_cel, DL.w_dct0, DL.w_meth, DL.isC_obj, DL.w_make, DL.w_pick, DL.pick_cons, DL.pick_nil, DL.w_own, DL.w_ne, DL.w_obS, DL.cls_obj, DL.fld_obj, DL.w_fmt, DL.w_fs, DL.w_fsNil, DL.w_fsCons, DL.w_isT, DL.w_revA, DL.s_try, DL.s_raiseI, DL.s_tryP, DL.s_endX, DL.w_isXT, DL.i_any, DL.ia_tup, DL.ia_str, DL.ia_lst, DL.ia_scr, DL.ia_cel, DL.gl_glo, DL.w_callA, DL.s_tryN, DL.s_never, DL.s_fld, DL.w_listN, DL.g_seq, DL.g_cons, DL.g_nil, DL.g_nm, DL.t_yes, DL.wipe_cons, DL.wipe_nil, DL.nn_non, DL.nn_int, DL.nn_str, DL.nn_bl, DL.nn_tup, DL.nn_lst, DL.w_fmR, DL.w_owns, DL.w_nes, DL.w_obSs, DL.w_meths, DL.w_xf, DL.i_zip, DL.w_revB, DL.s_new2, DL.w_callN2, List.map_cons, List.map_nil, List.length_cons, List.length_nil, List.cons_append, List.nil_append, List.append_nil, List.drop_zero, List.drop_nil, List.drop_succ_cons, List.getElem?_cons_zero, List.getElem?_cons_succ, List.set_cons_zero, List.set_cons_succ, List.replicate_succ, List.replicate_zero, Option.join_some, Option.map_some, if_true, if_false, Bool.not_true, Bool.not_false, true_and, and_true, Nat.reduceAdd, Nat.reduceSub, Nat.reduceLeDiff, decide_true, decide_false, Bool.false_eq_true, Option.bind_some, Int.reduceToNat, List.getElem?_set_self, Int.reduceLT, Int.reduceLE, Int.reduceNeg, Int.reduceSub, Int.reduceAdd, Int.reduceMul, Int.reducePow, Nat.reduceLT, Int.reduceEq, ite_self, w_neO, mk0, mk1, PG.dfl_Block_eq__, PG.dfl_Name_init__, PG.dfl_law_all_ways, PG.dfl_law_draw, PG.dfl_law_is_cell, PG.dfl_law_is_columns, PG.dfl_law_is_rows, PG.dfl_law_may, PG.dfl_law_tried, PG.dfl_law_word])
section
variable {μ m : List M} {b : Blk} {u d l r : Bool}
theorem ways_k {i : Nat} {Q : D → List M → Prop} {X : XP} (h : Dr μ i m) (hb : b.Fg) (k : ∀ m', Dr μ i m' → Q (.bl true) m') : WO (G_law_all_ways [four b, blkD b, .cel i] m) Q X ⟨⟩ := by
  refine WO.use (Q' := fun x m' => x = .bl true ∧ Dr μ i m') (k' := ⟨⟩) ?_ (by rintro x m' ⟨rfl, h2⟩; exact k m' h2)
  unfold G_law_all_ways
  refine wo_fn rfl ?_
  unfold D_law_all_ways
  trivial
  refine s_forGo (fun xs e m' => (∀ x ∈ xs, ∃ k : Int, x = .int k ∧ 0 ≤ k ∧ k < 16) ∧ (∃ o3 o4 o5 o6 : Option D, e = [some (four b), some (blkD b), some (.cel i), o3, o4, o5, o6]) ∧ Dr m i m') ?_ ?_ _ _ _ ⟨?_, ⟨_, _, _, _, rfl⟩, h.self⟩
  · rintro e m' ⟨-, ⟨o3, o4, o5, o6, rfl⟩, d1⟩
    refine ⟨⟨⟩, ?_⟩
    trivial
    exact d1.fr rfl ⟨rfl, h.trans d1⟩
  · rintro x xs e m' ⟨hx, ⟨o3, o4, o5, o6, rfl⟩, d1⟩
    obtain ⟨k, rfl, k0, k1⟩ := hx x List.mem_cons_self
    have hx := Hide.mk (fun y hy => hx y (List.mem_cons_of_mem _ hy))
    refine ⟨⟨⟩, ?_⟩
    have am : ∀ u d l r, G_law_may [four b, .tup [.bl u, .bl d], .tup [.bl l, .bl r]] m' = .ok (.bl (mayL b u d l r)) m' := fun u d l r => x_may d1.cln hb.ok
    have D1 := Hide.mk d1
    have HB := Hide.mk hb
    have key : ∀ (u d l r : Bool), (∀ w : Int, 0 ≤ w → w < 3 → ∀ m2, Dr m i m2 → G_law_tried [blkD b, .tup [.bl u, .bl d], .tup [.bl l, .bl r], .int w] m2 = .ok (if mayL b u d l r = true then .tup [.str "told", .tup [blkD b, .tup [.bl u, .bl d], .tup [.bl l, .bl r]]] else .tup [.str "refused", .str "name"]) m2) := fun u d l r w w0 w1 m2 d2 => by
      cases hm : mayL b u d l r
      · rw [if_neg Bool.false_ne_true]
        exact x_triedX d2.cln (by show (clean 0 (blkD b) && true) = true; rw [clean_blk]; rfl) w0 w1 (nm_not d2.cln HB.out hm)
      · rw [if_pos rfl]
        obtain ⟨h1, h2⟩ := Bool.and_eq_true_iff.mp hm
        exact x_triedO (n := ⟨b, u, d, l, r⟩) d2.cln w0 w1 ⟨HB.out, h1, h2⟩
    have key := Hide.mk key
    clear k0 k1 d1 hb
    trivial
    generalize decide (k % 2 = 1) = u
    generalize decide (k / 2 % 2 = 1) = d
    generalize decide (k / 4 % 2 = 1) = l
    generalize decide (k / 8 = 1) = r
    cases hm : mayL b u d l r
    · have hm' := Hide.mk hm
      clear hm
      trivial
      refine draw_k D1.out (by decide) (by decide) fun w m2 w0 w1 d2 => ?_
      have kk := key.out u d l r w w0 w1 m2 d2
      rw [hm'.out, if_neg Bool.false_ne_true] at kk
      have nq := @neO_ref m2 [("Block", G_Block_eq__)]
      have D2 := Hide.mk d2
      clear w0 w1 d2
      trivial
      exact ⟨hx.out, ⟨_, _, _, _, rfl⟩, D2.out⟩
    · have hm' := Hide.mk hm
      clear hm
      trivial
      refine draw_k D1.out (by decide) (by decide) fun w m2 w0 w1 d2 => ?_
      have kk := key.out u d l r w w0 w1 m2 d2
      rw [hm'.out, if_pos rfl] at kk
      have nq : neOv [("Block", G_Block_eq__)] m2 (.tup [.str "told", .tup [blkD b, .tup [.bl u, .bl d], .tup [.bl l, .bl r]]]) (.tup [.str "told", .tup [blkD b, .tup [.bl u, .bl d], .tup [.bl l, .bl r]]]) = some (.bl false) := neO_told d2.cln
      have D2 := Hide.mk d2
      clear w0 w1 d2
      trivial
      exact ⟨hx.out, ⟨_, _, _, _, rfl⟩, D2.out⟩
  · intro x hx
    rw [iota16] at hx
    simp only [List.mem_cons, List.not_mem_nil, or_false] at hx
    rcases hx with rfl | rfl | rfl | rfl | rfl | rfl | rfl | rfl | rfl | rfl | rfl | rfl | rfl | rfl | rfl | rfl
    all_goals exact ⟨_, rfl, by decide, by decide⟩
end
end PG
namespace PG
open PySem PySem.Spec PyProof.Rows L2 DL
structure Rf (x : D) : Prop where
  ex : ∃ d0 d1 d2, x = .tup [d0, d1, d2] ∧ cleans 0 [d0, d1, d2] = true ∧ ∀ m, Cln m → makeD "Name" 4 G_Name_init__ [d0, d1, d2] m = .ex "NoName" [] [] m
def n0 (b : Blk) : Nm := ⟨b, false, false, false, false⟩
theorem may_ff {st one : Bool} {o : Option Int} : mayB false false st o one = true := by
  unfold mayB
  cases one <;> rfl
local macro_rules | `(tactic| trivial) => `(tactic| simp (config := { dsimp := false }) only [*, eq_self, DL.w_ok, DL.w_ex, DL.w_bind, DL.w_bindS, DL.o_some, DL.w_dC, DL.w_var, DL.w_op, DL.a_nil, DL.a_cons, DL.w_tup, DL.w_lst, DL.w_blt, DL.w_call, DL.w_callN, DL.w_or, DL.w_and, DL.w_not, DL.w_neg, DL.w_if, DL.w_chain, DL.t_tru, DL.t_tst, DL.t_and, DL.t_or, DL.t_not, DL.p_no, DL.p_some, DL.w_slc, DL.w_m1, DL.w_m0, DL.w_fld, DL.s_nil, DL.s_brk, DL.s_cnt, DL.s_retN, DL.s_raise, DL.s_seq, DL.s_ret, DL.s_exp, DL.s_if, DL.s_set, DL.s_new, DL.s_cel, DL.s_retC, DL.s_par, DL.s_asg, DL.e_add, DL.e_sub, DL.e_mulR, DL.e_mulL, DL.e_modS, DL.e_divS, DL.e_pow, DL.e_lt, DL.e_le, DL.e_gt, DL.e_ge, DL.e_is, DL.e_isN, DL.e_eqI, DL.e_neI, DL.e_eqS, DL.e_neS, DL.h_bl, DL.h_int, DL.h_non, DL.b_bl, DL.i_int, DL.s_str, DL.l_lst, DL.q_lst, DL.q_tup, DL.c_lst, DL.c_seq, DL.c_lis, DL.x_cel, DL.x_lst, DL.x_tup, DL.at_nn, DL.ix_in, DL.p_cel, DL.e_mulIf, DL.e_mulM, DL.t_len, DL.t_intB, DL.start, DL.s_setIx, DL.s_for, DL.i_rng, DL.i_rng2, DL.w_lc, DL.r_one, DL.s_app, DL.g_cel, DL.w_dct0, DL.w_meth, DL.isC_obj, DL.w_make, DL.w_pick, DL.pick_cons, DL.pick_nil, DL.w_own, DL.w_ne, DL.w_obS, DL.cls_obj, DL.fld_obj, DL.w_fmt, DL.w_fs, DL.w_fsNil, DL.w_fsCons, DL.w_isT, DL.w_revA, DL.s_try, DL.s_raiseI, DL.s_tryP, DL.s_endX, DL.w_isXT, DL.i_any, DL.ia_tup, DL.ia_str, DL.ia_lst, DL.ia_scr, DL.ia_cel, DL.gl_glo, DL.w_callA, DL.s_tryN, DL.s_never, DL.s_fld, DL.w_listN, DL.g_seq, DL.g_cons, DL.g_nil, DL.g_nm, DL.t_yes, DL.wipe_cons, DL.wipe_nil, DL.nn_non, DL.nn_int, DL.nn_str, DL.nn_bl, DL.nn_tup, DL.nn_lst, DL.w_fmR, DL.w_owns, DL.w_nes, DL.w_obSs, DL.w_meths, DL.w_xf, DL.i_zip, DL.w_revB, DL.s_new2, DL.w_callN2, List.map_cons, List.map_nil, List.length_cons, List.length_nil, List.cons_append, List.nil_append, List.append_nil, List.drop_zero, List.drop_nil, List.drop_succ_cons, List.getElem?_cons_zero, List.getElem?_cons_succ, List.set_cons_zero, List.set_cons_succ, List.replicate_succ, List.replicate_zero, Option.join_some, Option.map_some, if_true, if_false, Bool.not_true, Bool.not_false, true_and, and_true, Nat.reduceAdd, Nat.reduceSub, Nat.reduceLeDiff, decide_true, decide_false, Bool.false_eq_true, Option.bind_some, Int.reduceToNat, List.getElem?_set_self, Int.reduceLT, Int.reduceLE, Int.reduceNeg, Int.reduceSub, Int.reduceAdd, Int.reduceMul, Int.reducePow, Nat.reduceLT, Int.reduceEq, ite_self, isB_bl', isT_mk, mk0, mk1, is_optN', Bool.not_true, Bool.not_false, c_blk, f_top, f_left, f_bottom, f_right, is_size, is_has, w_neO, PG.dfl_Block_size, PG.dfl_Name_init__, PG.dfl_are_marks, PG.dfl_is_columns, PG.dfl_is_rows, PG.dfl_law_bad, PG.dfl_law_draw, PG.dfl_law_others_refused, PG.dfl_law_tried, PG.dfl_may_be])
section
variable {μ m : List M} {b : Blk} {u d l r : Bool}
theorem nm_plain (hc : Cln μ) (hb : b.Fg) : makeD "Name" 4 G_Name_init__ [blkD b, .non, .non] μ = .ok (nmD (n0 b)) μ := by
  have hc2 : Cln (μ ++ [M.obj "Name" [] []]) := hc.snoc rfl
  refine makeD_ok hc rfl (by show (clean 0 (blkD b) && true) = true; rw [clean_blk]; rfl) ?_
  apply eq_ok
  unfold G_Name_init__
  refine wo_fn rfl ?_
  unfold D_Name_init__
  have i1 : opIs (μ ++ [M.obj "Name" [] []]) .non .non = some (.bl true) := rfl
  have i2 := isBlk (μ := μ ++ [M.obj "Name" [] []]) (b := b)
  have a1 : G_are_marks [.tup [.bl false, .bl false]] (μ ++ [M.obj "Name" [] []]) = .ok (.bl true) (μ ++ [M.obj "Name" [] []]) := x_marks (a := false) (b := false) hc2
  have a3 := x_size hc2 hb.ok hb.sm
  have a4 := x_isC (b := b) hc2
  have a5 := x_isR (b := b) hc2
  have a6 : G_may_be [.tup [.bl false, .bl false], .bl (!isCo b), opt b.b, .bl (one1 b)] (μ ++ [M.obj "Name" [] []]) = .ok (.bl true) (μ ++ [M.obj "Name" [] []]) := (x_mayB (a := false) (b := false) (st := !isCo b) (o := b.b) (one := one1 b) hc2).trans (by rw [may_ff])
  have a7 : G_may_be [.tup [.bl false, .bl false], .bl (!isR b), opt b.r, .bl (one1 b)] (μ ++ [M.obj "Name" [] []]) = .ok (.bl true) (μ ++ [M.obj "Name" [] []]) := (x_mayB (a := false) (b := false) (st := !isR b) (o := b.r) (one := one1 b) hc2).trans (by rw [may_ff])
  have e1 := @size_is1 (μ ++ [M.obj "Name" [] []]) b
  have f1 : celO (μ ++ [M.obj "Name" [] []]) (.cel μ.length) = some (μ.length, ("Name" : Str), ([] : List Str), ([] : List D)) := co_cel List.getElem?_concat_length
  have st : ∀ {a b : M}, (μ ++ [a]).set μ.length b = μ ++ [b] := fun {a b} => by rw [List.set_append_right _ _ (Nat.le_refl _), Nat.sub_self]; rfl
  have f2 : ∀ {ns l}, celO (μ ++ [M.obj "Name" ns l]) (.cel μ.length) = some (μ.length, ("Name" : Str), ns, l) := co_cel List.getElem?_concat_length
  have p1 : putD "block" (blkD b) [] [] = ((["block"] : List Str), ([blkD b] : List D)) := rfl
  have p2 : putD "rows" (.tup [.bl false, .bl false]) ["block"] [blkD b] = ((["block", "rows"] : List Str), ([blkD b, .tup [.bl false, .bl false]] : List D)) := by with_unfolding_all rfl
  have p3 : putD "columns" (.tup [.bl false, .bl false]) ["block", "rows"] [blkD b, .tup [.bl false, .bl false]] = ((["block", "rows", "columns"] : List Str), ([blkD b, .tup [.bl false, .bl false], .tup [.bl false, .bl false]] : List D)) := by with_unfolding_all rfl
  clear hb
  trivial
  refine ⟨rfl, hc.snoc (by show (clean 0 (blkD b) && true) = true; rw [clean_blk]; rfl), rfl, ?_⟩
  rw [List.take_of_length_le (by rw [List.length_append, List.length_append]; exact Nat.le_refl _)]
  rfl
theorem thing_ix {w : Int} (w0 : 0 ≤ w) (w1 : w < 8) : ∃ d, Thg d ∧ ∀ m, opIx m (.lst [.non, .str "A1", .tup [.int 1, .int 1, .int 1, .int 1], .lst [blkD b], .bl true, .int 5, .dct [] [], nmD (n0 b)]) (.int w) = some d := by
  have cases8 : w = 0 ∨ w = 1 ∨ w = 2 ∨ w = 3 ∨ w = 4 ∨ w = 5 ∨ w = 6 ∨ w = 7 := by omega
  clear w0 w1
  rcases cases8 with rfl | rfl | rfl | rfl | rfl | rfl | rfl | rfl
  · exact ⟨_, ⟨rfl, fun _ => by with_unfolding_all rfl⟩, fun _ => rfl⟩
  · exact ⟨_, ⟨rfl, fun _ => by with_unfolding_all rfl⟩, fun _ => rfl⟩
  · exact ⟨_, ⟨rfl, fun _ => by with_unfolding_all rfl⟩, fun _ => rfl⟩
  · exact ⟨_, ⟨by show (clean 0 (blkD b) && true) = true; rw [clean_blk]; rfl, fun _ => by with_unfolding_all rfl⟩, fun _ => rfl⟩
  · exact ⟨_, ⟨rfl, fun _ => by with_unfolding_all rfl⟩, fun _ => rfl⟩
  · exact ⟨_, ⟨rfl, fun _ => by with_unfolding_all rfl⟩, fun _ => rfl⟩
  · exact ⟨_, ⟨rfl, fun _ => by with_unfolding_all rfl⟩, fun _ => rfl⟩
  · exact ⟨_, ⟨clean_nm _, fun _ => by with_unfolding_all rfl⟩, fun _ => rfl⟩
theorem others_k {i : Nat} {Q : D → List M → Prop} {X : XP} (h : Dr μ i m) (hb : b.Fg) (k : ∀ m', Dr μ i m' → Q (.bl true) m') : WO (G_law_others_refused [blkD b, mkB u d, mkB l r, .cel i] m) Q X ⟨⟩ := by
  refine WO.use (Q' := fun x m' => x = .bl true ∧ Dr μ i m') (k' := ⟨⟩) ?_ (by rintro x m' ⟨rfl, h2⟩; exact k m' h2)
  unfold G_law_others_refused
  refine wo_fn rfl ?_
  unfold D_law_others_refused
  trivial
  refine bad_k h.self fun b1 m1 hb1 d1 => ?_
  trivial
  refine bad_k d1 fun b2 m2 hb2 d2 => ?_
  trivial
  refine bad_k d2 fun b3 m3 hb3 d3 => ?_
  trivial
  refine bad_k d3 fun b4 m4 hb4 d4 => ?_
  have np := nm_plain d4.cln hb
  have HB := Hide.mk hb
  clear hb
  trivial
  refine draw_k d4 (by decide) (by decide) fun w1 m5 p0 p1 d5 => ?_
  obtain ⟨t1, ht1, i1⟩ := thing_ix (b := b) p0 p1
  have i1 := i1 m5
  clear p0 p1
  trivial
  refine draw_k d5 (by decide) (by decide) fun w2 m6 p0 p1 d6 => ?_
  obtain ⟨t2, ht2, i2⟩ := thing_ix (b := b) p0 p1
  have i2 := i2 m6
  clear p0 p1
  trivial
  refine bad_k d6 fun b5 m7 hb5 d7 => ?_
  have ad : opAdd m7 (.lst [.tup [blkD b, b1, mkB l r], .tup [blkD b, mkB u d, b2], .tup [blkD b, b3, b4]]) (.lst [.tup [t1, mkB u d, mkB l r], .tup [t2, b5, mkB l r]]) = some (.lst [.tup [blkD b, b1, mkB l r], .tup [blkD b, mkB u d, b2], .tup [blkD b, b3, b4], .tup [t1, mkB u d, mkB l r], .tup [t2, b5, mkB l r]]) := by
    rw [e_addL l_lst l_lst, if_pos (by show 3 + 2 ≤ 100000; decide)]; rfl
  have cb : clean 0 (blkD b) = true := clean_blk
  have r1 : Rf (.tup [blkD b, b1, mkB l r]) := ⟨_, _, _, rfl, by show (clean 0 (blkD b) && (clean 0 b1 && (true && true))) = true; rw [cb, hb1.cl]; rfl, fun m hm => nm_badR hm hb1.am hb1.nn fun _ => rfl⟩
  have r2 : Rf (.tup [blkD b, mkB u d, b2]) := ⟨_, _, _, rfl, by show (clean 0 (blkD b) && (true && (clean 0 b2 && true))) = true; rw [cb, hb2.cl]; rfl, fun m hm => nm_badC hm hb2.am hb2.nn⟩
  have r3 : Rf (.tup [blkD b, b3, b4]) := ⟨_, _, _, rfl, by show (clean 0 (blkD b) && (clean 0 b3 && (clean 0 b4 && true))) = true; rw [cb, hb3.cl, hb4.cl]; rfl, fun m hm => nm_badR hm hb3.am hb3.nn hb4.nn⟩
  have r4 : Rf (.tup [t1, mkB u d, mkB l r]) := ⟨_, _, _, rfl, by show (clean 0 t1 && (true && (true && true))) = true; rw [ht1.cl]; rfl, fun m hm => nm_badB hm ht1.bk (fun _ => rfl) fun _ => rfl⟩
  have r5 : Rf (.tup [t2, b5, mkB l r]) := ⟨_, _, _, rfl, by show (clean 0 t2 && (clean 0 b5 && (true && true))) = true; rw [ht2.cl, hb5.cl]; rfl, fun m hm => nm_badB hm ht2.bk hb5.nn fun _ => rfl⟩
  have all : ∀ x ∈ [D.tup [blkD b, b1, mkB l r], D.tup [blkD b, mkB u d, b2], D.tup [blkD b, b3, b4], D.tup [t1, mkB u d, mkB l r], D.tup [t2, b5, mkB l r]], Rf x := by
    intro x hx
    simp only [List.mem_cons, List.not_mem_nil, or_false] at hx
    rcases hx with rfl | rfl | rfl | rfl | rfl
    · exact r1
    · exact r2
    · exact r3
    · exact r4
    · exact r5
  have ALL := Hide.mk all
  have D7 := Hide.mk d7
  clear r1 r2 r3 r4 r5 all cb i1 i2 np
  trivial
  clear ad
  refine s_forGo (fun xs e m' => (∀ x ∈ xs, Rf x) ∧ (∃ (o4 o5 o6 : Option D), e = [some (blkD b), some (mkB u d), some (mkB l r), some (.cel i), o4, o5, o6]) ∧ Dr m i m') ?_ ?_ _ _ _ ⟨ALL.out, ⟨_, _, _, rfl⟩, D7.out⟩
  · rintro e m' ⟨-, ⟨o4, o5, o6, rfl⟩, d1⟩
    refine ⟨⟨⟩, ?_⟩
    trivial
    exact d1.fr rfl ⟨rfl, h.trans d1⟩
  · rintro x xs e m' ⟨hx, ⟨o4, o5, o6, rfl⟩, d1⟩
    obtain ⟨x0, x1, x2, rfl, cl, mk⟩ := (hx x List.mem_cons_self).ex
    have hx := Hide.mk (fun y hy => hx y (List.mem_cons_of_mem _ hy))
    have mk := Hide.mk mk
    have cl := Hide.mk cl
    refine ⟨⟨⟩, ?_⟩
    trivial
    refine draw_k d1 (by decide) (by decide) fun w m8 w0 w1 d8 => ?_
    have tr := x_triedX d8.cln cl.out w0 w1 (mk.out _ d8.cln)
    have nr := @ne_ref m8
    have D8 := Hide.mk d8
    clear w0 w1 d8
    trivial
    exact ⟨hx.out, ⟨_, _, _, rfl⟩, D8.out⟩
end
end PG
namespace PG
open PySem PySem.Spec PyProof.Rows L2 DL
def ent21 (n : Nm) : D := .tup [nmD n, dueN n]
theorem clean_ents21 (acc : List Nm) : cleans 0 (acc.map ent21) = true := by
  induction acc with
  | nil => rfl
  | cons p acc h =>
    rw [List.map_cons]
    show ((clean 0 (nmD p) && (clean 0 (dueN p) && true)) && cleans 0 (acc.map ent21)) = true
    rw [h, clean_nm, clean_dueN]
    rfl
def Inv21 (ns : List Int) (xs : List D) (e : En) (m : List M) : Prop := ∃ (ks : List Int) (acc : List Nm) (o2 o3 o4 o5 o6 o7 o8 o9 o10 o11 o12 : Option D), xs = ks.map D.int ∧ ks.length + acc.length ≤ 70 ∧ (∀ p ∈ acc, p.Ok) ∧ e = [some (.scr ns), some (.cel 0), o2, o3, o4, o5, o6, o7, o8, o9, o10, o11, o12, none, none] ∧ Cln m ∧ m[0]? = some (.lst (acc.map ent21))
section
variable {μ m : List M} {n n' : Nm} {x : D}
theorem in_marks : opIn true m (.bl true) (.tup [.bl n.u, .bl n.d, .bl n.l, .bl n.r]) = some (.bl (decide (n = n0 n.b))) := by
  obtain ⟨b, u, d, l, r⟩ := n
  have e : decide ((⟨b, u, d, l, r⟩ : Nm) = n0 b) = decide (u = false ∧ d = false ∧ l = false ∧ r = false) := by
    apply decide_eq_decide.mpr
    unfold n0
    simp
  rw [e]
  cases u <;> cases d <;> cases l <;> cases r <;> with_unfolding_all rfl
theorem ne_bb {p : Bool} : opNe m (.bl p) (.bl p) = some (.bl false) := by cases p <;> rfl
theorem eq_bb {p : Bool} : opEq m (.bl (!p)) (.bl p) = some (.bl false) := by cases p <;> rfl
end
local macro_rules | `(tactic| trivial) => `(tactic| simp (config := { dsimp := false }) only [*, eq_self, DL.w_ok, DL.w_ex, DL.w_bind, DL.w_bindS, DL.o_some, DL.w_dC, DL.w_var, DL.w_op, DL.a_nil, DL.a_cons, DL.w_tup, DL.w_lst, DL.w_blt, DL.w_call, DL.w_callN, DL.w_or, DL.w_and, DL.w_not, DL.w_neg, DL.w_if, DL.w_chain, DL.t_tru, DL.t_tst, DL.t_and, DL.t_or, DL.t_not, DL.p_no, DL.p_some, DL.w_slc, DL.w_m1, DL.w_m0, DL.w_fld, DL.s_nil, DL.s_brk, DL.s_cnt, DL.s_retN, DL.s_raise, DL.s_seq, DL.s_ret, DL.s_exp, DL.s_if, DL.s_set, DL.s_new, DL.s_cel, DL.s_retC, DL.s_par, DL.s_asg, DL.e_add, DL.e_sub, DL.e_mulR, DL.e_mulL, DL.e_modS, DL.e_divS, DL.e_pow, DL.e_lt, DL.e_le, DL.e_gt, DL.e_ge, DL.e_is, DL.e_isN, DL.e_eqI, DL.e_neI, DL.e_eqS, DL.e_neS, DL.h_bl, DL.h_int, DL.h_non, DL.b_bl, DL.i_int, DL.s_str, DL.l_lst, DL.q_lst, DL.q_tup, DL.c_lst, DL.c_seq, DL.c_lis, DL.x_cel, DL.x_lst, DL.x_tup, DL.at_nn, DL.ix_in, DL.p_cel, DL.e_mulIf, DL.e_mulM, DL.t_len, DL.t_intB, DL.start, DL.s_setIx, DL.s_for, DL.i_rng, DL.i_rng2, DL.w_lc, DL.r_one, DL.s_app, DL.g_cel, DL.w_dct0, DL.w_meth, DL.isC_obj, DL.w_make, DL.w_pick, DL.pick_cons, DL.pick_nil, DL.w_own, DL.w_ne, DL.w_obS, DL.cls_obj, DL.fld_obj, DL.w_fmt, DL.w_fs, DL.w_fsNil, DL.w_fsCons, DL.w_isT, DL.w_revA, DL.s_try, DL.s_raiseI, DL.s_tryP, DL.s_endX, DL.w_isXT, DL.i_any, DL.ia_tup, DL.ia_str, DL.ia_lst, DL.ia_scr, DL.ia_cel, DL.gl_glo, DL.w_callA, DL.s_tryN, DL.s_never, DL.s_fld, DL.w_listN, DL.g_seq, DL.g_cons, DL.g_nil, DL.g_nm, DL.t_yes, DL.wipe_cons, DL.wipe_nil, DL.nn_non, DL.nn_int, DL.nn_str, DL.nn_bl, DL.nn_tup, DL.nn_lst, DL.w_fmR, DL.w_owns, DL.w_nes, DL.w_obSs, DL.w_meths, DL.w_xf, DL.i_zip, DL.w_revB, DL.s_new2, DL.w_callN2, List.map_cons, List.map_nil, List.length_cons, List.length_nil, List.cons_append, List.nil_append, List.append_nil, List.drop_zero, List.drop_nil, List.drop_succ_cons, List.getElem?_cons_zero, List.getElem?_cons_succ, List.set_cons_zero, List.set_cons_succ, List.replicate_succ, List.replicate_zero, Option.join_some, Option.map_some, if_true, if_false, Bool.not_true, Bool.not_false, true_and, and_true, Nat.reduceAdd, Nat.reduceSub, Nat.reduceLeDiff, decide_true, decide_false, Bool.false_eq_true, Option.bind_some, Int.reduceToNat, List.getElem?_set_self, Int.reduceLT, Int.reduceLE, Int.reduceNeg, Int.reduceSub, Int.reduceAdd, Int.reduceMul, Int.reducePow, Nat.reduceLT, Int.reduceEq, ite_self, jx0, jx1, jx2, jx3, mk0, mk1, c_nm, f_nblock, f_nrows, f_ncols, c_blk, s_forCons, s_forNil, PG.dfl_Block_eq__, PG.dfl_Block_init__, PG.dfl_Name_eq__, PG.dfl_Name_init__, PG.dfl_Name_str__, PG.dfl_law_all_ways, PG.dfl_law_block, PG.dfl_law_k21, PG.dfl_law_marks, PG.dfl_law_others_refused, PG.dfl_law_well])
section
variable {μ m : List M} {n n' : Nm} {x : D} {ns : List Int}
theorem x_nmNot (hc : Cln μ) (h : bIsU (.inr "Name") μ [x, .glo "Name"] = some (.bl false)) : G_Name_eq__ [nmD n, x] μ = .ok (.bl false) μ := by
  apply eq_ok
  unfold G_Name_eq__
  refine wo_fn rfl ?_
  unfold D_Name_eq__
  trivial
  exact fr_same hc rfl ⟨rfl, rfl⟩
set_option maxHeartbeats 2000000 in
theorem law_main21 (hn : ns.length ≤ 63) : ∃ μ, G_law_k21 [.scr ns] [] = .ok (.bl true) μ := by
  have hm : WO (G_law_k21 [.scr ns] []) (fun x m => x = .bl true) xNo ⟨⟩ := by
    unfold G_law_k21
    refine wo_fn rfl ?_
    unfold D_law_k21
    obtain ⟨as, s1, s2⟩ := cut_scr2 (m := [M.lst []]) (lo := none) (hi := some 12) hn
    have s3 : opAdd [M.lst []] (.lst (as.map D.int)) (.lst [.int 1, .int 4, .int 9]) = some (.lst ((as ++ [1, 4, 9]).map D.int)) := add_ints2 (m := [M.lst []]) (as := as) (bs := [1, 4, 9]) (by show _ + 3 ≤ _; omega)
    trivial
    refine s_forGo (Inv21 ns) ?_ ?_ _ _ _ ⟨as ++ [1, 4, 9], [], _, _, _, _, _, _, _, _, _, _, _, rfl, by rw [List.length_append]; show _ + 3 + 0 ≤ 70; omega, fun _ q => absurd q List.not_mem_nil, rfl, fun q hq => by rw [List.mem_singleton.mp hq]; rfl, rfl⟩
    · rintro e m ⟨ks, acc, o2, o3, o4, o5, o6, o7, o8, o9, o10, o11, o12, -, h1, h2, rfl, hc, hm⟩
      refine ⟨⟨⟩, ?_⟩
      show WS _ _ _ _ _ _ ⟨⟩
      clear s1 s2 s3 h1
      have rv : revA m (.cel 0) = some (.lst (acc.reverse.map ent21)) := by
        show (cellL m[0]?).map (fun l => D.lst l.reverse) = _
        rw [hm, List.map_reverse]
        rfl
      trivial
      refine s_forGo (fun xs e m' => ∃ (ps : List Nm) (o10 o11 o13 o14 : Option D), xs = ps.map ent21 ∧ e = [some (.scr ns), some (.cel 0), o2, o3, o4, o5, o6, o7, o8, o9, o10, o11, o12, o13, o14] ∧ m' = m) ?_ ?_ _ _ _ ⟨acc.reverse, _, _, _, _, rfl, rfl, rfl⟩
      · rintro e m' ⟨ps, o10, o11, o13, o14, -, rfl, rfl⟩
        refine ⟨⟨⟩, ?_⟩
        trivial
        exact ⟨rfl, hc, rfl⟩
      · rintro x xs e m' ⟨ps, o10, o11, o13, o14, hx, rfl, rfl⟩
        refine ⟨⟨⟩, ?_⟩
        cases ps with
        | nil => cases hx
        | cons p ps =>
          rw [List.map_cons] at hx
          cases hx
          have c0 : cellL m'[0]? = some (acc.map ent21) := by rw [hm]; rfl
          have sq : ∀ n, seqOf m' (ent21 n) = some [nmD n, dueN n] := fun _ => rfl
          clear rv
          trivial
          refine s_forGo (fun xs e m2 => ∃ (qs : List Nm) (o11 o14 : Option D), xs = qs.map ent21 ∧ e = [some (.scr ns), some (.cel 0), o2, o3, o4, o5, o6, o7, o8, o9, some (nmD p), o11, o12, some (dueN p), o14] ∧ m2 = m') ?_ ?_ _ _ _ ⟨acc, _, _, rfl, rfl, rfl⟩
          · rintro e m2 ⟨qs, o11, o14, -, rfl, rfl⟩
            exact ⟨c0, ps, _, _, _, _, rfl, rfl, rfl⟩
          · rintro x xs e m2 ⟨qs, o11, o14, hx, rfl, rfl⟩
            refine ⟨c0, ?_⟩
            cases qs with
            | nil => cases hx
            | cons q qs =>
              rw [List.map_cons] at hx
              cases hx
              have a5 := x_neq (n := p) (n' := q) hc
              have a6 := @eq_dueN m2 p q
              have a7 := @ne_bb m2 (decide (p = q))
              have a8 := @eq_bb m2 (decide (p = q))
              have tg : ∀ n : Nm, tagOf m2 (nmD n) = some (.inr ("Name" : Str)) := fun _ => rfl
              have ist : ∀ t : Ty, (some t).isSome = true := fun _ => rfl
              trivial
              exact ⟨qs, _, _, rfl, rfl⟩
    · rintro x xs e m ⟨ks, acc, o2, o3, o4, o5, o6, o7, o8, o9, o10, o11, o12, hx, h1, h2, rfl, hc, hm⟩
      refine ⟨⟨⟩, ?_⟩
      show WS _ _ _ _ _ _ ⟨⟩
      cases ks with
      | nil => cases hx
      | cons k ks =>
        rw [List.map_cons] at hx
        cases hx
        clear s1 s2 s3
        rw [List.length_cons] at h1
        have h1' := Hide.mk h1
        have h2 := Hide.mk h2
        have hm := Hide.mk hm
        clear h1
        trivial
        refine well_k hc fun a a2 => ?_
        trivial
        refine block_k (Dr.new hc) fun b m1 hb d1 => ?_
        trivial
        refine marks_k d1 hb.fg fun n m2 hnb hn d2 => ?_
        subst hnb
        have mk := x_make d2.cln hb.ok
        have HB := Hide.mk hb
        have HN := Hide.mk hn
        clear hb hn d1
        trivial
        refine ways_k d2 HN.out.b fun m3 d3 => ?_
        trivial
        refine others_k d3 HN.out.b fun m4 d4 => ?_
        have hc4 := d4.cln
        clear d2 d3 mk
        have mk1 := x_make hc4 HB.out.ok
        have mk2 := x_name hc4 HN.out
        have mk3 := nm_plain hc4 HN.out.b
        have q1 : opNe m4 (.tup [mkB (n0 n.b).u (n0 n.b).d, mkB (n0 n.b).l (n0 n.b).r]) (.tup [.tup [.bl false, .bl false], .tup [.bl false, .bl false]]) = some (.bl false) := neMk (a := false) (b := false) (c := false) (d := false)
        have q2 : G_Block_eq__ [blkD (n0 n.b).b, blkD n.b] m4 = .ok (.bl true) m4 := (x_eq (b := n.b) (c := n.b) hc4).trans (by rw [decide_eq_true rfl])
        have q3 : G_Name_eq__ [nmD n, nmD n] m4 = .ok (.bl true) m4 := (x_neq (n := n) (n' := n) hc4).trans (by rw [decide_eq_true rfl])
        have q4 := x_neq (n := n) (n' := n0 n.b) hc4
        have q5 : opAddT m4 (mkB n.u n.d) (mkB n.l n.r) = some (.tup [.bl n.u, .bl n.d, .bl n.l, .bl n.r]) := rfl
        have q6 := @in_marks m4 n
        have q7 := @ne_bb m4 (decide (n = n0 n.b))
        have q8 := x_nstr hc4 HN.out.b
        have tg : ∀ n : Nm, tagOf m4 (nmD n) = some (.inr ("Name" : Str)) := fun _ => rfl
        have tb : ∀ b : Blk, tagOf m4 (blkD b) = some (.inr ("Block" : Str)) := fun _ => rfl
        have ist : ∀ t : Ty, (some t).isSome = true := fun _ => rfl
        have t1 := x_nmNot (n := n) (x := blkD n.b) hc4 (by with_unfolding_all rfl)
        have t2 := x_nmNot (n := n) (x := .str (nameS n)) hc4 (by with_unfolding_all rfl)
        have t3 := x_nmNot (n := n) (x := .non) hc4 (by with_unfolding_all rfl)
        have t4 := x_nmNot (n := n) (x := .tup [blkD n.b, mkB n.u n.d, mkB n.l n.r]) hc4 (by with_unfolding_all rfl)
        have t5 := x_nmNot (n := n) (x := .bl true) hc4 (by with_unfolding_all rfl)
        have t6 := x_nmNot (n := n) (x := .dct [] []) hc4 (by with_unfolding_all rfl)
        have g2 : ∀ s, tagOf m4 (.str s) = some (.inl "str") := fun _ => rfl
        have g3 : tagOf m4 .non = some (.inl "NoneType") := rfl
        have g4 : ∀ l, tagOf m4 (.tup l) = some (.inl "tuple") := fun _ => rfl
        have g5 : tagOf m4 (.bl true) = some (.inl "bool") := rfl
        have g6 : tagOf m4 (.dct [] []) = some (.inl "dict") := rfl
        have D4 := Hide.mk d4
        clear d4
        have hl : 0 < m.length := (List.getElem?_eq_some_iff.mp hm.out).1
        have k0 : m4[0]? = some (.lst (acc.map ent21)) := by
          rw [D4.out.at_ (by omega), List.getElem?_append_left (by omega)]
          exact hm.out
        have c0 : cellL m4[0]? = some (acc.map ent21) := by rw [k0]; rfl
        have K0 := Hide.mk k0
        clear hl k0
        trivial
        have h1 := h1'.out
        have k0l : 0 < m4.length := (List.getElem?_eq_some_iff.mp K0.out).1
        have e0 : acc.map ent21 ++ [D.tup [nmD n, .tup [four n.b, mkB n.u n.d, mkB n.l n.r]]] = (acc ++ [n]).map ent21 := by rw [List.map_append]; rfl
        refine ⟨by rw [List.length_map]; omega, ks, acc ++ [n], _, _, _, _, _, _, _, _, _, _, _, rfl, ?_, ?_, rfl, ?_, ?_⟩
        · rw [List.length_append]; show _ + (_ + 1) ≤ 70; omega
        · intro p hp
          rcases List.mem_append.mp hp with hp | hp
          · exact h2.out p hp
          · rw [List.mem_singleton.mp hp]; exact HN.out
        · rw [e0]
          exact hc4.set (clean_ents21 _)
        · rw [List.getElem?_set_self k0l, e0]
  obtain ⟨x, m, e, rfl⟩ := hm.ex_
  exact ⟨m, e⟩
end
end PG
namespace K21
open PySem PySem.Spec PyProof.Rows L2 DL PG
structure Fx (K : PySem.W.Frag) (mg : Str → Option Value) : Prop where
  g_Block : mg "Block" = some (.ref (He.ga K "Block"))
  g_CellError : mg "CellError" = some (.ref (He.ga K "CellError"))
  g_Endless : mg "Endless" = some (.ref (He.ga K "Endless"))
  g_Gone : mg "Gone" = some (.ref (He.ga K "Gone"))
  g_MANNERS : mg "MANNERS" = some (.ref (He.ga K "MANNERS"))
  g_Name : mg "Name" = some (.ref (He.ga K "Name"))
  g_NoArea : mg "NoArea" = some (.ref (He.ga K "NoArea"))
  g_NoBlock : mg "NoBlock" = some (.ref (He.ga K "NoBlock"))
  g_NoCell : mg "NoCell" = some (.ref (He.ga K "NoCell"))
  g_NoChange : mg "NoChange" = some (.ref (He.ga K "NoChange"))
  g_NoColumn : mg "NoColumn" = some (.ref (He.ga K "NoColumn"))
  g_NoManner : mg "NoManner" = some (.ref (He.ga K "NoManner"))
  g_NoName : mg "NoName" = some (.ref (He.ga K "NoName"))
  g_NoNumber : mg "NoNumber" = some (.ref (He.ga K "NoNumber"))
  g_NoOrder : mg "NoOrder" = some (.ref (He.ga K "NoOrder"))
  g_NoPlace : mg "NoPlace" = some (.ref (He.ga K "NoPlace"))
  g_NoRow : mg "NoRow" = some (.ref (He.ga K "NoRow"))
  g_NoSheet : mg "NoSheet" = some (.ref (He.ga K "NoSheet"))
  g_NoText : mg "NoText" = some (.ref (He.ga K "NoText"))
  g_NoValue : mg "NoValue" = some (.ref (He.ga K "NoValue"))
  g_NoWord : mg "NoWord" = some (.ref (He.ga K "NoWord"))
  g_Ring : mg "Ring" = some (.ref (He.ga K "Ring"))
  g_Unknown : mg "Unknown" = some (.ref (He.ga K "Unknown"))
  g_letters_ahead : mg "letters_ahead" = some (.ref (He.ga K "letters_ahead"))
  g_numbers_beside : mg "numbers_beside" = some (.ref (He.ga K "numbers_beside"))
  f_ValueError : mg "ValueError" = none
  f_all : mg "all" = none
  f_bool : mg "bool" = none
  f_divmod : mg "divmod" = none
  f_int : mg "int" = none
  f_isinstance : mg "isinstance" = none
  f_len : mg "len" = none
  f_min : mg "min" = none
  f_range : mg "range" = none
  f_str : mg "str" = none
  f_tuple : mg "tuple" = none
  c_LETTERS : ∃ t, mg "LETTERS" = some (.str "ABCDEFGHIJKLMNOPQRSTUVWXYZ" t)
  x_NoBlock : ∀ n, ExF (at0 (S0 K) n) "NoBlock"
  x_NoCell : ∀ n, ExF (at0 (S0 K) n) "NoCell"
  x_NoColumn : ∀ n, ExF (at0 (S0 K) n) "NoColumn"
  x_NoManner : ∀ n, ExF (at0 (S0 K) n) "NoManner"
  x_NoName : ∀ n, ExF (at0 (S0 K) n) "NoName"
  n_block : ∀ n, ClsOk (at0 (S0 K) n) "block"
  n_bottom : ∀ n, ClsOk (at0 (S0 K) n) "bottom"
  n_columns : ∀ n, ClsOk (at0 (S0 K) n) "columns"
  n_left : ∀ n, ClsOk (at0 (S0 K) n) "left"
  n_right : ∀ n, ClsOk (at0 (S0 K) n) "right"
  n_rows : ∀ n, ClsOk (at0 (S0 K) n) "rows"
  n_top : ∀ n, ClsOk (at0 (S0 K) n) "top"
  ins : ∀ n, ∀ x ∈ (at0 (S0 K) n).cls, InsF (at0 (S0 K) n).K ((at0 (S0 K) n).A x)
  k_Block : ∀ n, KitF (at0 (S0 K) n) (.inr "Block")
  k_Name : ∀ n, KitF (at0 (S0 K) n) (.inr "Name")
  k_bool : ∀ n, KitF (at0 (S0 K) n) (.inl "bool")
  k_int : ∀ n, KitF (at0 (S0 K) n) (.inl "int")
  k_tuple : ∀ n, KitF (at0 (S0 K) n) (.inl "tuple")
  xk_Endless : ∀ n p, ExcsF ((at0 (S0 K) n).pin p) (["NoCell", "NoColumn", "NoBlock", "NoName"] : List Str) (.inr "Endless")
  xk_Gone : ∀ n p, ExcsF ((at0 (S0 K) n).pin p) (["NoCell", "NoColumn", "NoBlock", "NoName"] : List Str) (.inr "Gone")
  xk_NoArea : ∀ n p, ExcsF ((at0 (S0 K) n).pin p) (["NoCell", "NoColumn", "NoBlock", "NoName"] : List Str) (.inr "NoArea")
  xk_NoBlock : ∀ n p, ExcsF ((at0 (S0 K) n).pin p) (["NoCell", "NoColumn", "NoBlock", "NoName"] : List Str) (.inr "NoBlock")
  xk_NoCell : ∀ n p, ExcsF ((at0 (S0 K) n).pin p) (["NoCell", "NoColumn", "NoBlock", "NoName"] : List Str) (.inr "NoCell")
  xk_NoChange : ∀ n p, ExcsF ((at0 (S0 K) n).pin p) (["NoCell", "NoColumn", "NoBlock", "NoName"] : List Str) (.inr "NoChange")
  xk_NoColumn : ∀ n p, ExcsF ((at0 (S0 K) n).pin p) (["NoCell", "NoColumn", "NoBlock", "NoName"] : List Str) (.inr "NoColumn")
  xk_NoManner : ∀ n p, ExcsF ((at0 (S0 K) n).pin p) (["NoCell", "NoColumn", "NoBlock", "NoName"] : List Str) (.inr "NoManner")
  xk_NoName : ∀ n p, ExcsF ((at0 (S0 K) n).pin p) (["NoCell", "NoColumn", "NoBlock", "NoName"] : List Str) (.inr "NoName")
  xk_NoNumber : ∀ n p, ExcsF ((at0 (S0 K) n).pin p) (["NoCell", "NoColumn", "NoBlock", "NoName"] : List Str) (.inr "NoNumber")
  xk_NoOrder : ∀ n p, ExcsF ((at0 (S0 K) n).pin p) (["NoCell", "NoColumn", "NoBlock", "NoName"] : List Str) (.inr "NoOrder")
  xk_NoPlace : ∀ n p, ExcsF ((at0 (S0 K) n).pin p) (["NoCell", "NoColumn", "NoBlock", "NoName"] : List Str) (.inr "NoPlace")
  xk_NoRow : ∀ n p, ExcsF ((at0 (S0 K) n).pin p) (["NoCell", "NoColumn", "NoBlock", "NoName"] : List Str) (.inr "NoRow")
  xk_NoSheet : ∀ n p, ExcsF ((at0 (S0 K) n).pin p) (["NoCell", "NoColumn", "NoBlock", "NoName"] : List Str) (.inr "NoSheet")
  xk_NoText : ∀ n p, ExcsF ((at0 (S0 K) n).pin p) (["NoCell", "NoColumn", "NoBlock", "NoName"] : List Str) (.inr "NoText")
  xk_NoValue : ∀ n p, ExcsF ((at0 (S0 K) n).pin p) (["NoCell", "NoColumn", "NoBlock", "NoName"] : List Str) (.inr "NoValue")
  xk_NoWord : ∀ n p, ExcsF ((at0 (S0 K) n).pin p) (["NoCell", "NoColumn", "NoBlock", "NoName"] : List Str) (.inr "NoWord")
  xk_Ring : ∀ n p, ExcsF ((at0 (S0 K) n).pin p) (["NoCell", "NoColumn", "NoBlock", "NoName"] : List Str) (.inr "Ring")
  xk_Unknown : ∀ n p, ExcsF ((at0 (S0 K) n).pin p) (["NoCell", "NoColumn", "NoBlock", "NoName"] : List Str) (.inr "Unknown")
  xk_ValueError : ∀ n p, ExcsF ((at0 (S0 K) n).pin p) (["NoCell", "NoColumn", "NoBlock", "NoName"] : List Str) (.inl "ValueError")
  xm_CellError : ∀ n, ExmF (at0 (S0 K) n) (["NoCell", "NoColumn", "NoBlock", "NoName"] : List Str) "CellError"
  t_MANNERS : ∀ n, TupF (at0 (S0 K) n) "MANNERS" [.str "letters", .str "numbers"]
  nf_Block : ∀ n, NotF (at0 (S0 K) n) "Block"
  nf_Name : ∀ n, NotF (at0 (S0 K) n) "Name"
  ne_Block : ∀ n, NeF (at0 (S0 K) n) "Block"
  ne_Name : ∀ n, NeF (at0 (S0 K) n) "Name"
section
variable {P : Program} {w : World} {K : PySem.W.Frag} {mg : Str → Option Value} {base : Heap}
abbrev nm_law_well : List Str := ["_law_cell"]
theorem sc_law_well : FnScope nm_law_well ["_law_cell"] (defScope st_law_well) := ⟨rfl, rfl, rfl, by decide +kernel, rfl, by decide +kernel, by decide +kernel⟩
theorem ok_law_well {fd : FuncData} {dvs : List V} {kws : List (Str × V)} (T : Fx K mg)  (F : FunD K "_law_well" "_law_well" (defArgs st_law_well) (defBody st_law_well) (defScope st_law_well) dvs kws (He.ga K "_law_well") fd) :
    FnOk P w K mg base (L2M.CX false P w) 1 (He.ga K "_law_well") fd ["_law_cell"] (spN (S0 K) 1 G_law_well) :=
  fnN_ok (S := S0 K) F sc_law_well fun n cdv A outer s H E hr =>
    have hnd := sc_law_well.nd
    have tk : L2M.Takes false (cxOf (L2M.CX false P w) P w K mg base nm_law_well "_law_well" (defScope st_law_well) (He.ga K "_law_well") cdv A outer s H E) (fun cls d _ H => E cls d H) := L2M.takes_of rfl rfl rfl rfl
    (pdss_one (pds_retC (pda_cons (pd_op po_mul (pd_var (pv 0)) (pd_bty (pb_int) rfl T.f_int (by decide +kernel) (pda_cons (pd_cmp po_ge (pd_var (pv 0)) (pd_op po_pow pd_int pd_int) (nomark _)) pda_nil))) (pda_cons (pd_op po_mod (pd_var (pv 0)) pd_int) (pda_cons pd_int pda_nil)))))
abbrev nm_law_draw : List Str := ["_law_well_here", "_law_many", "_law_found", "_law_number_here"]
theorem sc_law_draw : FnScope nm_law_draw ["_law_well_here", "_law_many"] (defScope st_law_draw) := ⟨rfl, rfl, rfl, by decide +kernel, rfl, by decide +kernel, by decide +kernel⟩
theorem ok_law_draw {fd : FuncData} {dvs : List V} {kws : List (Str × V)} (T : Fx K mg)  (F : FunD K "_law_draw" "_law_draw" (defArgs st_law_draw) (defBody st_law_draw) (defScope st_law_draw) dvs kws (He.ga K "_law_draw") fd) :
    FnOk P w K mg base (L2M.CX false P w) 1 (He.ga K "_law_draw") fd ["_law_well_here", "_law_many"] (spD (S0 K) 2 G_law_draw) :=
  fnD_ok (S := S0 K) F sc_law_draw fun n cdv A outer s H E hr =>
    have hnd := sc_law_draw.nd
    have tk : L2M.Takes false (cxOf (L2M.CX false P w) P w K mg base nm_law_draw "_law_draw" (defScope st_law_draw) (He.ga K "_law_draw") cdv A outer s H E) (fun cls d _ H => E cls d H) := L2M.takes_of rfl rfl rfl rfl
    (pdss_cons (pds_if (pdt_cmp po_gt (pd_ix rfl (pd_var (pv 0)) pd_int (fun _ _ => rfl)) pd_int (nomark _))
      (pdss_cons (pds_set hnd rfl (by first | exact Or.inl rfl | exact Or.inr rfl) (pd_op po_mod (pd_ix rfl (pd_var (pv 0)) pd_int (fun _ _ => rfl)) (pd_var (pv 1))))
      (pdss_cons (pds_setIx (pd_op po_div (pd_ix rfl (pd_var (pv 0)) pd_int (fun _ _ => rfl)) (pd_var (pv 1))) (pd_var (pv 0)) pd_int)
      (pdss_one (pds_ret (pd_var (pv 2))))))
      pdss_nil)
      (pdss_cons (pds_setIx (pd_op po_add (pd_ix rfl (pd_var (pv 0)) pd_int (fun _ _ => rfl)) pd_int) (pd_var (pv 0)) pd_int)
      (pdss_cons (pds_set hnd rfl (by first | exact Or.inl rfl | exact Or.inr rfl) (pd_op po_mod (pd_op po_mul (pd_op po_add (pd_op po_add (pd_ix rfl (pd_var (pv 0)) pd_int (fun _ _ => rfl)) (pd_op po_mul pd_int (pd_ix rfl (pd_var (pv 0)) pd_int (fun _ _ => rfl)))) pd_int) pd_int) pd_int))
      (pdss_cons (pds_set hnd rfl (by first | exact Or.inl rfl | exact Or.inr rfl) (pd_op po_mod (pd_op po_mul (pd_var (pv 3)) (pd_op po_add (pd_op po_div (pd_var (pv 3)) pd_int) pd_int)) pd_int))
      (pdss_one (pds_ret (pd_op po_mod (pd_op po_div (pd_op po_mod (pd_op po_mul (pd_var (pv 3)) (pd_op po_add (pd_op po_div (pd_var (pv 3)) pd_int) pd_int)) pd_int) pd_int) (pd_var (pv 1)))))))))
abbrev nm_law_number : List Str := ["_law_well_here", "_law_way", "_law_far"]
theorem sc_law_number : FnScope nm_law_number ["_law_well_here"] (defScope st_law_number) := ⟨rfl, rfl, rfl, by decide +kernel, rfl, by decide +kernel, by decide +kernel⟩
theorem ok_law_number {fd : FuncData} {dvs : List V} {kws : List (Str × V)} (T : Fx K mg) (C_law_draw_fn : CalD false P w K mg base (S0 K) 1 "_law_draw" 2 G_law_draw dfl_law_draw) (F : FunD K "_law_number" "_law_number" (defArgs st_law_number) (defBody st_law_number) (defScope st_law_number) dvs kws (He.ga K "_law_number") fd) :
    FnOk P w K mg base (L2M.CX false P w) 2 (He.ga K "_law_number") fd ["_law_well_here"] (spD (S0 K) 1 G_law_number) :=
  fnD_ok (S := S0 K) F sc_law_number fun n cdv A outer s H E hr =>
    have hnd := sc_law_number.nd
    have tk : L2M.Takes false (cxOf (L2M.CX false P w) P w K mg base nm_law_number "_law_number" (defScope st_law_number) (He.ga K "_law_number") cdv A outer s H E) (fun cls d _ H => E cls d H) := L2M.takes_of rfl rfl rfl rfl
    (pdss_cons (pds_set hnd rfl (by first | exact Or.inl rfl | exact Or.inr rfl) (pd_c C_law_draw_fn hr (by decide) 0 (by decide) tk rfl (pda_cons (pd_var (pv 0)) (pda_cons pd_int pda_nil))))
      (pdss_cons (pds_if (pdt_cmp po_lt (pd_var (pv 1)) pd_int (nomark _))
      (pdss_one (pds_ret (pd_op po_add pd_int (pd_c C_law_draw_fn hr (by decide) 0 (by decide) tk rfl (pda_cons (pd_var (pv 0)) (pda_cons pd_int pda_nil))))))
      pdss_nil)
      (pdss_cons (pds_if (pdt_cmp (po_eq rfl hr.units) (pd_var (pv 1)) pd_int (nomark _))
      (pdss_cons (pds_set hnd rfl (by first | exact Or.inl rfl | exact Or.inr rfl) (pd_lst (pda_cons pd_int (pda_cons pd_int (pda_cons pd_int (pda_cons pd_int (pda_cons pd_int (pda_cons pd_int (pda_cons pd_int (pda_cons pd_int (pda_cons pd_int (pda_cons pd_int (pda_cons (pd_op po_sub (pd_op po_pow pd_int pd_int) pd_int) (pda_cons pd_int pda_nil))))))))))))))
      (pdss_one (pds_ret (pd_ix rfl (pd_var (pv 2)) (pd_c C_law_draw_fn hr (by decide) 0 (by decide) tk rfl (pda_cons (pd_var (pv 0)) (pda_cons pd_int pda_nil))) (fun _ _ => rfl)))))
      pdss_nil)
      (pdss_cons (pds_if (pdt_cmp (po_eq rfl hr.units) (pd_var (pv 1)) pd_int (nomark _))
      (pdss_one (pds_ret (pd_op po_add pd_int (pd_c C_law_draw_fn hr (by decide) 0 (by decide) tk rfl (pda_cons (pd_var (pv 0)) (pda_cons (pd_op po_sub (pd_op po_pow pd_int pd_int) pd_int) pda_nil))))))
      pdss_nil)
      (pdss_one (pds_ret (pd_op po_add pd_int (pd_c C_law_draw_fn hr (by decide) 0 (by decide) tk rfl (pda_cons (pd_var (pv 0)) (pda_cons pd_int pda_nil))))))))))
abbrev nm_law_last : List Str := ["_law_well_here", "_law_first", "_law_way"]
theorem sc_law_last : FnScope nm_law_last ["_law_well_here", "_law_first"] (defScope st_law_last) := ⟨rfl, rfl, rfl, by decide +kernel, rfl, by decide +kernel, by decide +kernel⟩
theorem ok_law_last {fd : FuncData} {dvs : List V} {kws : List (Str × V)} (T : Fx K mg) (C_law_draw_fn : CalD false P w K mg base (S0 K) 1 "_law_draw" 2 G_law_draw dfl_law_draw) (F : FunD K "_law_last" "_law_last" (defArgs st_law_last) (defBody st_law_last) (defScope st_law_last) dvs kws (He.ga K "_law_last") fd) :
    FnOk P w K mg base (L2M.CX false P w) 2 (He.ga K "_law_last") fd ["_law_well_here", "_law_first"] (spD (S0 K) 2 G_law_last) :=
  fnD_ok (S := S0 K) F sc_law_last fun n cdv A outer s H E hr =>
    have hnd := sc_law_last.nd
    have tk : L2M.Takes false (cxOf (L2M.CX false P w) P w K mg base nm_law_last "_law_last" (defScope st_law_last) (He.ga K "_law_last") cdv A outer s H E) (fun cls d _ H => E cls d H) := L2M.takes_of rfl rfl rfl rfl
    (pdss_cons (pds_set hnd rfl (by first | exact Or.inl rfl | exact Or.inr rfl) (pd_c C_law_draw_fn hr (by decide) 0 (by decide) tk rfl (pda_cons (pd_var (pv 0)) (pda_cons pd_int pda_nil))))
      (pdss_cons (pds_if (pdt_cmp po_lt (pd_var (pv 2)) pd_int (nomark _))
      (pdss_one (pds_ret (pd_var (pv 1))))
      pdss_nil)
      (pdss_cons (pds_if (pdt_cmp (po_eq rfl hr.units) (pd_var (pv 2)) pd_int (nomark _))
      (pdss_one (pds_ret (pd_blt (pb_min rfl) rfl T.f_min (by decide +kernel) (pda_cons (pd_op po_sub (pd_op po_pow pd_int pd_int) pd_int) (pda_cons (pd_op po_add (pd_var (pv 1)) (pd_c C_law_draw_fn hr (by decide) 0 (by decide) tk rfl (pda_cons (pd_var (pv 0)) (pda_cons (pd_op po_pow pd_int pd_int) pda_nil)))) pda_nil)))))
      pdss_nil)
      (pdss_one (pds_ret (pd_blt (pb_min rfl) rfl T.f_min (by decide +kernel) (pda_cons (pd_op po_sub (pd_op po_pow pd_int pd_int) pd_int) (pda_cons (pd_op po_add (pd_var (pv 1)) (pd_c C_law_draw_fn hr (by decide) 0 (by decide) tk rfl (pda_cons (pd_var (pv 0)) (pda_cons pd_int pda_nil)))) pda_nil))))))))
abbrev nm_law_block : List Str := ["_law_well_here", "_law_kind", "_law_top", "_law_bottom", "_law_left", "_law_right"]
theorem sc_law_block : FnScope nm_law_block ["_law_well_here"] (defScope st_law_block) := ⟨rfl, rfl, rfl, by decide +kernel, rfl, by decide +kernel, by decide +kernel⟩
theorem ok_law_block {fd : FuncData} {dvs : List V} {kws : List (Str × V)} (T : Fx K mg) (C_law_draw_fn : CalD false P w K mg base (S0 K) 1 "_law_draw" 2 G_law_draw dfl_law_draw) (C_law_number_fn : CalD false P w K mg base (S0 K) 2 "_law_number" 1 G_law_number dfl_law_number) (C_law_last_fn : CalD false P w K mg base (S0 K) 2 "_law_last" 2 G_law_last dfl_law_last) (F : FunD K "_law_block" "_law_block" (defArgs st_law_block) (defBody st_law_block) (defScope st_law_block) dvs kws (He.ga K "_law_block") fd) :
    FnOk P w K mg base (L2M.CX false P w) 3 (He.ga K "_law_block") fd ["_law_well_here"] (spD (S0 K) 1 G_law_block) :=
  fnD_ok (S := S0 K) F sc_law_block fun n cdv A outer s H E hr =>
    have hnd := sc_law_block.nd
    have tk : L2M.Takes false (cxOf (L2M.CX false P w) P w K mg base nm_law_block "_law_block" (defScope st_law_block) (He.ga K "_law_block") cdv A outer s H E) (fun cls d _ H => E cls d H) := L2M.takes_of rfl rfl rfl rfl
    (pdss_cons (pds_set hnd rfl (by first | exact Or.inl rfl | exact Or.inr rfl) (pd_c C_law_draw_fn hr (by decide) 0 (by decide) tk rfl (pda_cons (pd_var (pv 0)) (pda_cons pd_int pda_nil))))
      (pdss_cons (pds_set hnd rfl (by first | exact Or.inl rfl | exact Or.inr rfl) (pd_c C_law_number_fn hr (by decide) 0 (by decide) tk rfl (pda_cons (pd_var (pv 0)) pda_nil)))
      (pdss_cons (pds_set hnd rfl (by first | exact Or.inl rfl | exact Or.inr rfl) (pd_c C_law_last_fn hr (by decide) 0 (by decide) tk rfl (pda_cons (pd_var (pv 0)) (pda_cons (pd_var (pv 2)) pda_nil))))
      (pdss_cons (pds_set hnd rfl (by first | exact Or.inl rfl | exact Or.inr rfl) (pd_c C_law_number_fn hr (by decide) 0 (by decide) tk rfl (pda_cons (pd_var (pv 0)) pda_nil)))
      (pdss_cons (pds_set hnd rfl (by first | exact Or.inl rfl | exact Or.inr rfl) (pd_c C_law_last_fn hr (by decide) 0 (by decide) tk rfl (pda_cons (pd_var (pv 0)) (pda_cons (pd_var (pv 4)) pda_nil))))
      (pdss_cons (pds_if (pdt_cmp (po_eq rfl hr.units) (pd_var (pv 1)) pd_int (nomark _))
      (pdss_one (pds_ret (pd_tup (pda_cons (pd_var (pv 2)) (pda_cons (pd_var (pv 4)) (pda_cons (pd_var (pv 2)) (pda_cons (pd_var (pv 4)) pda_nil)))))))
      pdss_nil)
      (pdss_cons (pds_if (pdt_cmp (po_eq rfl hr.units) (pd_var (pv 1)) pd_int (nomark _))
      (pdss_one (pds_ret (pd_tup (pda_cons (pd_var (pv 2)) (pda_cons pd_int (pda_cons (pd_var (pv 3)) (pda_cons pd_non pda_nil)))))))
      pdss_nil)
      (pdss_cons (pds_if (pdt_cmp (po_eq rfl hr.units) (pd_var (pv 1)) pd_int (nomark _))
      (pdss_one (pds_ret (pd_tup (pda_cons pd_int (pda_cons (pd_var (pv 4)) (pda_cons pd_non (pda_cons (pd_var (pv 5)) pda_nil)))))))
      pdss_nil)
      (pdss_cons (pds_if (pdt_cmp po_lt (pd_var (pv 1)) pd_int (nomark _))
      (pdss_one (pds_ret (pd_ix rfl (pd_lst (pda_cons (pd_tup (pda_cons (pd_var (pv 2)) (pda_cons (pd_var (pv 4)) (pda_cons pd_non (pda_cons (pd_var (pv 5)) pda_nil))))) (pda_cons (pd_tup (pda_cons (pd_var (pv 2)) (pda_cons (pd_var (pv 4)) (pda_cons (pd_var (pv 3)) (pda_cons pd_non pda_nil))))) (pda_cons (pd_tup (pda_cons (pd_var (pv 2)) (pda_cons (pd_var (pv 4)) (pda_cons pd_non (pda_cons pd_non pda_nil))))) pda_nil)))) (pd_op po_sub (pd_var (pv 1)) pd_int) (fun _ _ => rfl))))
      pdss_nil)
      (pdss_cons (pds_if (pdt_cmp (po_eq rfl hr.units) (pd_var (pv 1)) pd_int (nomark _))
      (pdss_one (pds_ret (pd_tup (pda_cons pd_int (pda_cons pd_int (pda_cons pd_non (pda_cons pd_non pda_nil)))))))
      pdss_nil)
      (pdss_one (pds_ret (pd_tup (pda_cons (pd_var (pv 2)) (pda_cons (pd_var (pv 4)) (pda_cons (pd_var (pv 3)) (pda_cons (pd_var (pv 5)) pda_nil)))))))))))))))))
abbrev nm_law_is_columns : List Str := ["_law_four"]
theorem sc_law_is_columns : FnScope nm_law_is_columns ["_law_four"] (defScope st_law_is_columns) := ⟨rfl, rfl, rfl, by decide +kernel, rfl, by decide +kernel, by decide +kernel⟩
theorem ok_law_is_columns {fd : FuncData} {dvs : List V} {kws : List (Str × V)} (T : Fx K mg)  (F : FunD K "_law_is_columns" "_law_is_columns" (defArgs st_law_is_columns) (defBody st_law_is_columns) (defScope st_law_is_columns) dvs kws (He.ga K "_law_is_columns") fd) :
    FnOk P w K mg base (L2M.CX false P w) 1 (He.ga K "_law_is_columns") fd ["_law_four"] (spD (S0 K) 1 G_law_is_columns) :=
  fnD_ok (S := S0 K) F sc_law_is_columns fun n cdv A outer s H E hr =>
    have hnd := sc_law_is_columns.nd
    have tk : L2M.Takes false (cxOf (L2M.CX false P w) P w K mg base nm_law_is_columns "_law_is_columns" (defScope st_law_is_columns) (He.ga K "_law_is_columns") cdv A outer s H E) (fun cls d _ H => E cls d H) := L2M.takes_of rfl rfl rfl rfl
    (pdss_one (pds_ret (pd_and rfl (pd_cmp (po_eq rfl hr.units) (pd_ix rfl (pd_var (pv 0)) pd_int (fun _ _ => rfl)) pd_int (nomark _)) (pd_and rfl (pd_cmp po_is (pd_ix rfl (pd_var (pv 0)) pd_int (fun _ _ => rfl)) pd_non (nomark _)) (pd_one (pd_cmp po_isN (pd_ix rfl (pd_var (pv 0)) pd_int (fun _ _ => rfl)) pd_non (nomark _)))))))
abbrev nm_law_is_rows : List Str := ["_law_four"]
theorem sc_law_is_rows : FnScope nm_law_is_rows ["_law_four"] (defScope st_law_is_rows) := ⟨rfl, rfl, rfl, by decide +kernel, rfl, by decide +kernel, by decide +kernel⟩
theorem ok_law_is_rows {fd : FuncData} {dvs : List V} {kws : List (Str × V)} (T : Fx K mg)  (F : FunD K "_law_is_rows" "_law_is_rows" (defArgs st_law_is_rows) (defBody st_law_is_rows) (defScope st_law_is_rows) dvs kws (He.ga K "_law_is_rows") fd) :
    FnOk P w K mg base (L2M.CX false P w) 1 (He.ga K "_law_is_rows") fd ["_law_four"] (spD (S0 K) 1 G_law_is_rows) :=
  fnD_ok (S := S0 K) F sc_law_is_rows fun n cdv A outer s H E hr =>
    have hnd := sc_law_is_rows.nd
    have tk : L2M.Takes false (cxOf (L2M.CX false P w) P w K mg base nm_law_is_rows "_law_is_rows" (defScope st_law_is_rows) (He.ga K "_law_is_rows") cdv A outer s H E) (fun cls d _ H => E cls d H) := L2M.takes_of rfl rfl rfl rfl
    (pdss_one (pds_ret (pd_and rfl (pd_cmp (po_eq rfl hr.units) (pd_ix rfl (pd_var (pv 0)) pd_int (fun _ _ => rfl)) pd_int (nomark _)) (pd_and rfl (pd_cmp po_is (pd_ix rfl (pd_var (pv 0)) pd_int (fun _ _ => rfl)) pd_non (nomark _)) (pd_one (pd_cmp po_isN (pd_ix rfl (pd_var (pv 0)) pd_int (fun _ _ => rfl)) pd_non (nomark _)))))))
abbrev nm_law_is_cell : List Str := ["_law_four"]
theorem sc_law_is_cell : FnScope nm_law_is_cell ["_law_four"] (defScope st_law_is_cell) := ⟨rfl, rfl, rfl, by decide +kernel, rfl, by decide +kernel, by decide +kernel⟩
theorem ok_law_is_cell {fd : FuncData} {dvs : List V} {kws : List (Str × V)} (T : Fx K mg)  (F : FunD K "_law_is_cell" "_law_is_cell" (defArgs st_law_is_cell) (defBody st_law_is_cell) (defScope st_law_is_cell) dvs kws (He.ga K "_law_is_cell") fd) :
    FnOk P w K mg base (L2M.CX false P w) 1 (He.ga K "_law_is_cell") fd ["_law_four"] (spD (S0 K) 1 G_law_is_cell) :=
  fnD_ok (S := S0 K) F sc_law_is_cell fun n cdv A outer s H E hr =>
    have hnd := sc_law_is_cell.nd
    have tk : L2M.Takes false (cxOf (L2M.CX false P w) P w K mg base nm_law_is_cell "_law_is_cell" (defScope st_law_is_cell) (He.ga K "_law_is_cell") cdv A outer s H E) (fun cls d _ H => E cls d H) := L2M.takes_of rfl rfl rfl rfl
    (pdss_one (pds_ret (pd_cmp (po_eq rfl hr.units) (pd_slc rfl (pd_var (pv 0)) pdp_none (pdp_some pd_int)) (pd_slc rfl (pd_var (pv 0)) (pdp_some pd_int) pdp_none) (nomark _))))
abbrev nm_law_marks : List Str := ["_law_well_here", "_law_four", "_law_some", "_law_k", "_law_ups", "_law_sides"]
theorem sc_law_marks : FnScope nm_law_marks ["_law_well_here", "_law_four"] (defScope st_law_marks) := ⟨rfl, rfl, rfl, by decide +kernel, rfl, by decide +kernel, by decide +kernel⟩
theorem ok_law_marks {fd : FuncData} {dvs : List V} {kws : List (Str × V)} (T : Fx K mg) (C_law_draw_fn : CalD false P w K mg base (S0 K) 1 "_law_draw" 2 G_law_draw dfl_law_draw) (C_law_is_columns_fn : CalD false P w K mg base (S0 K) 1 "_law_is_columns" 1 G_law_is_columns dfl_law_is_columns) (C_law_is_rows_fn : CalD false P w K mg base (S0 K) 1 "_law_is_rows" 1 G_law_is_rows dfl_law_is_rows) (C_law_is_cell_fn : CalD false P w K mg base (S0 K) 1 "_law_is_cell" 1 G_law_is_cell dfl_law_is_cell) (F : FunD K "_law_marks" "_law_marks" (defArgs st_law_marks) (defBody st_law_marks) (defScope st_law_marks) dvs kws (He.ga K "_law_marks") fd) :
    FnOk P w K mg base (L2M.CX false P w) 2 (He.ga K "_law_marks") fd ["_law_well_here", "_law_four"] (spD (S0 K) 2 G_law_marks) :=
  fnD_ok (S := S0 K) F sc_law_marks fun n cdv A outer s H E hr =>
    have hnd := sc_law_marks.nd
    have tk : L2M.Takes false (cxOf (L2M.CX false P w) P w K mg base nm_law_marks "_law_marks" (defScope st_law_marks) (He.ga K "_law_marks") cdv A outer s H E) (fun cls d _ H => E cls d H) := L2M.takes_of rfl rfl rfl rfl
    (pdss_cons (pds_setLc (own := [("_law_k", 3)]) rfl hnd rfl rfl (sw_true rfl rfl rfl (by decide +kernel)) (pdi_range1 rfl T.f_range (pda_cons pd_int pda_nil)) (blkOk_by (own := [("_law_k", 3)]) (N := ["_law_well_here", "_law_four", "_law_some", "_law_k", "_law_ups", "_law_sides"]) (sc := defScope st_law_marks) (by decide +kernel)) (by decide) (fun _ _ _ _ _ => (pdg_name hnd rfl (by first | exact Or.inl rfl | exact Or.inr rfl))) (fun _ _ _ _ _ => pdts_nil) (fun _ _ _ _ _ => (pd_cmp (po_eq rfl hr.units) (pd_c C_law_draw_fn hr (by decide) 0 (by decide) takesNo rfl (pda_cons (pd_var (pv 0)) (pda_cons pd_int pda_nil))) pd_int (nomark _))))
      (pdss_cons (pds_set hnd rfl (by first | exact Or.inl rfl | exact Or.inr rfl) (pd_tup (pda_cons (pd_and rfl (pd_ix rfl (pd_var (pv 2)) pd_int (fun _ _ => rfl)) (pd_one (pd_not rfl (pd_c C_law_is_columns_fn hr (by decide) 0 (by decide) tk rfl (pda_cons (pd_var (pv 1)) pda_nil))))) (pda_cons (pd_and rfl (pd_ix rfl (pd_var (pv 2)) pd_int (fun _ _ => rfl)) (pd_and rfl (pd_not rfl (pd_c C_law_is_columns_fn hr (by decide) 0 (by decide) tk rfl (pda_cons (pd_var (pv 1)) pda_nil))) (pd_one (pd_cmp po_isN (pd_ix rfl (pd_var (pv 1)) pd_int (fun _ _ => rfl)) pd_non (nomark _))))) pda_nil))))
      (pdss_cons (pds_set hnd rfl (by first | exact Or.inl rfl | exact Or.inr rfl) (pd_tup (pda_cons (pd_and rfl (pd_ix rfl (pd_var (pv 2)) pd_int (fun _ _ => rfl)) (pd_one (pd_not rfl (pd_c C_law_is_rows_fn hr (by decide) 0 (by decide) tk rfl (pda_cons (pd_var (pv 1)) pda_nil))))) (pda_cons (pd_and rfl (pd_ix rfl (pd_var (pv 2)) pd_int (fun _ _ => rfl)) (pd_and rfl (pd_not rfl (pd_c C_law_is_rows_fn hr (by decide) 0 (by decide) tk rfl (pda_cons (pd_var (pv 1)) pda_nil))) (pd_one (pd_cmp po_isN (pd_ix rfl (pd_var (pv 1)) pd_int (fun _ _ => rfl)) pd_non (nomark _))))) pda_nil))))
      (pdss_cons (pds_if (pdt_tru rfl (pd_c C_law_is_cell_fn hr (by decide) 0 (by decide) tk rfl (pda_cons (pd_var (pv 1)) pda_nil)))
      (pdss_one (pds_ret (pd_tup (pda_cons (pd_tup (pda_cons (pd_ix rfl (pd_var (pv 4)) pd_int (fun _ _ => rfl)) (pda_cons (pd_ix rfl (pd_var (pv 4)) pd_int (fun _ _ => rfl)) pda_nil))) (pda_cons (pd_tup (pda_cons (pd_ix rfl (pd_var (pv 5)) pd_int (fun _ _ => rfl)) (pda_cons (pd_ix rfl (pd_var (pv 5)) pd_int (fun _ _ => rfl)) pda_nil))) pda_nil)))))
      pdss_nil)
      (pdss_one (pds_ret (pd_tup (pda_cons (pd_var (pv 4)) (pda_cons (pd_var (pv 5)) pda_nil)))))))))
abbrev nm_is_whole : List Str := ["thing"]
theorem sc_is_whole : FnScope nm_is_whole ["thing"] (defScope st_is_whole) := ⟨rfl, rfl, rfl, by decide +kernel, rfl, by decide +kernel, by decide +kernel⟩
theorem ok_is_whole {fd : FuncData} {dvs : List V} {kws : List (Str × V)} (T : Fx K mg)  (F : FunD K "is_whole" "is_whole" (defArgs st_is_whole) (defBody st_is_whole) (defScope st_is_whole) dvs kws (He.ga K "is_whole") fd) :
    FnOk P w K mg base (L2M.CX false P w) 1 (He.ga K "is_whole") fd ["thing"] (spD (S0 K) 1 G_is_whole) :=
  fnD_ok (S := S0 K) F sc_is_whole fun n cdv A outer s H E hr =>
    have hnd := sc_is_whole.nd
    have tk : L2M.Takes false (cxOf (L2M.CX false P w) P w K mg base nm_is_whole "is_whole" (defScope st_is_whole) (He.ga K "is_whole") cdv A outer s H E) (fun cls d _ H => E cls d H) := L2M.takes_of rfl rfl rfl rfl
    (pdss_one (pds_ret (pd_and rfl (pd_blt (pb_isi rfl (T.ins n) (T.k_int n)) rfl T.f_isinstance (by decide +kernel) (pda_cons (pd_var (pv 0)) (pda_cons (pd_bvl rfl T.f_int (by decide +kernel)) pda_nil))) (pd_one (pd_not rfl (pd_blt (pb_isi rfl (T.ins n) (T.k_bool n)) rfl T.f_isinstance (by decide +kernel) (pda_cons (pd_var (pv 0)) (pda_cons (pd_bvl rfl T.f_bool (by decide +kernel)) pda_nil))))))))
abbrev nm_is_count : List Str := ["thing"]
theorem sc_is_count : FnScope nm_is_count ["thing"] (defScope st_is_count) := ⟨rfl, rfl, rfl, by decide +kernel, rfl, by decide +kernel, by decide +kernel⟩
theorem ok_is_count {fd : FuncData} {dvs : List V} {kws : List (Str × V)} (T : Fx K mg) (C_is_whole_fn : CalD false P w K mg base (S0 K) 1 "is_whole" 1 G_is_whole dfl_is_whole) (F : FunD K "is_count" "is_count" (defArgs st_is_count) (defBody st_is_count) (defScope st_is_count) dvs kws (He.ga K "is_count") fd) :
    FnOk P w K mg base (L2M.CX false P w) 2 (He.ga K "is_count") fd ["thing"] (spD (S0 K) 1 G_is_count) :=
  fnD_ok (S := S0 K) F sc_is_count fun n cdv A outer s H E hr =>
    have hnd := sc_is_count.nd
    have tk : L2M.Takes false (cxOf (L2M.CX false P w) P w K mg base nm_is_count "is_count" (defScope st_is_count) (He.ga K "is_count") cdv A outer s H E) (fun cls d _ H => E cls d H) := L2M.takes_of rfl rfl rfl rfl
    (pdss_one (pds_ret (pd_and rfl (pd_c C_is_whole_fn hr (by decide) 0 (by decide) tk rfl (pda_cons (pd_var (pv 0)) pda_nil)) (pd_one (pd_cmp po_ge (pd_var (pv 0)) pd_int (nomark _))))))
abbrev nm_is_end : List Str := ["first", "last"]
theorem sc_is_end : FnScope nm_is_end ["first", "last"] (defScope st_is_end) := ⟨rfl, rfl, rfl, by decide +kernel, rfl, by decide +kernel, by decide +kernel⟩
theorem ok_is_end {fd : FuncData} {dvs : List V} {kws : List (Str × V)} (T : Fx K mg) (C_is_count_fn : CalD false P w K mg base (S0 K) 2 "is_count" 1 G_is_count dfl_is_count) (F : FunD K "is_end" "is_end" (defArgs st_is_end) (defBody st_is_end) (defScope st_is_end) dvs kws (He.ga K "is_end") fd) :
    FnOk P w K mg base (L2M.CX false P w) 3 (He.ga K "is_end") fd ["first", "last"] (spD (S0 K) 2 G_is_end) :=
  fnD_ok (S := S0 K) F sc_is_end fun n cdv A outer s H E hr =>
    have hnd := sc_is_end.nd
    have tk : L2M.Takes false (cxOf (L2M.CX false P w) P w K mg base nm_is_end "is_end" (defScope st_is_end) (He.ga K "is_end") cdv A outer s H E) (fun cls d _ H => E cls d H) := L2M.takes_of rfl rfl rfl rfl
    (pdss_one (pds_ret (pd_or rfl (pd_cmp po_is (pd_var (pv 1)) pd_non (nomark _)) (pd_one (pd_and rfl (pd_c C_is_count_fn hr (by decide) 0 (by decide) tk rfl (pda_cons (pd_var (pv 1)) pda_nil)) (pd_one (pd_cmp po_ge (pd_var (pv 1)) (pd_var (pv 0)) (nomark _))))))))
abbrev nm_Block_init__ : List Str := ["self", "top", "left", "bottom", "right"]
theorem sc_Block_init__ : FnScope nm_Block_init__ ["self", "top", "left", "bottom", "right"] (defScope st_Block_init__) := ⟨rfl, rfl, rfl, by decide +kernel, rfl, by decide +kernel, by decide +kernel⟩
theorem ok_Block_init__ {fd : FuncData} {dvs : List V} {kws : List (Str × V)} (T : Fx K mg) (C_is_count_fn : CalD false P w K mg base (S0 K) 2 "is_count" 1 G_is_count dfl_is_count) (C_is_end_fn : CalD false P w K mg base (S0 K) 3 "is_end" 2 G_is_end dfl_is_end) (F : FunD K "__init__" "Block.__init__" (defArgs st_Block_init__) (defBody st_Block_init__) (defScope st_Block_init__) dvs kws (He.ma K (He.ga K "Block") "__init__") fd) :
    FnOk P w K mg base (L2M.CX false P w) 4 (He.ma K (He.ga K "Block") "__init__") fd ["self", "top", "left", "bottom", "right"] (spD (S0 K) 5 G_Block_init__) :=
  fnD_ok (S := S0 K) F sc_Block_init__ fun n cdv A outer s H E hr =>
    have hnd := sc_Block_init__.nd
    have tk : L2M.Takes false (cxOf (L2M.CX false P w) P w K mg base nm_Block_init__ "Block.__init__" (defScope st_Block_init__) (He.ma K (He.ga K "Block") "__init__") cdv A outer s H E) (fun cls d _ H => E cls d H) := L2M.takes_of rfl rfl rfl rfl
    (pdss_cons (pds_if (PDW.pt (pdw_or (pdt_not (pdt_tru rfl (pd_c C_is_count_fn hr (by decide) 0 (by decide) tk rfl (pda_cons (pd_var (pv 1)) pda_nil)))) (pdw_or (pdt_not (pdt_tru rfl (pd_c C_is_count_fn hr (by decide) 0 (by decide) tk rfl (pda_cons (pd_var (pv 2)) pda_nil)))) (pdw_or (pdt_not (pdt_tru rfl (pd_c C_is_end_fn hr (by decide) 0 (by decide) tk rfl (pda_cons (pd_var (pv 1)) (pda_cons (pd_var (pv 3)) pda_nil))))) (pdw_or1 (pdt_not (pdt_tru rfl (pd_c C_is_end_fn hr (by decide) 0 (by decide) tk rfl (pda_cons (pd_var (pv 2)) (pda_cons (pd_var (pv 4)) pda_nil))))))))))
      (pdss_one (pds_raise rfl (T.x_NoBlock n) rfl tk rfl T.g_NoBlock))
      pdss_nil)
      (pdss_cons (pds_fld rfl (T.n_top n) (pd_var (pv 0)) (pd_var (pv 1)))
      (pdss_cons (pds_fld rfl (T.n_left n) (pd_var (pv 0)) (pd_var (pv 2)))
      (pdss_cons (pds_fld rfl (T.n_bottom n) (pd_var (pv 0)) (pd_var (pv 3)))
      (pdss_one (pds_fld rfl (T.n_right n) (pd_var (pv 0)) (pd_var (pv 4))))))))
abbrev nm_law_may : List Str := ["_law_four", "_law_ups", "_law_sides", "_law_good"]
theorem sc_law_may : FnScope nm_law_may ["_law_four", "_law_ups", "_law_sides"] (defScope st_law_may) := ⟨rfl, rfl, rfl, by decide +kernel, rfl, by decide +kernel, by decide +kernel⟩
theorem ok_law_may {fd : FuncData} {dvs : List V} {kws : List (Str × V)} (T : Fx K mg) (C_law_is_cell_fn : CalD false P w K mg base (S0 K) 1 "_law_is_cell" 1 G_law_is_cell dfl_law_is_cell) (C_law_is_columns_fn : CalD false P w K mg base (S0 K) 1 "_law_is_columns" 1 G_law_is_columns dfl_law_is_columns) (C_law_is_rows_fn : CalD false P w K mg base (S0 K) 1 "_law_is_rows" 1 G_law_is_rows dfl_law_is_rows) (F : FunD K "_law_may" "_law_may" (defArgs st_law_may) (defBody st_law_may) (defScope st_law_may) dvs kws (He.ga K "_law_may") fd) :
    FnOk P w K mg base (L2M.CX false P w) 2 (He.ga K "_law_may") fd ["_law_four", "_law_ups", "_law_sides"] (spD (S0 K) 3 G_law_may) :=
  fnD_ok (S := S0 K) F sc_law_may fun n cdv A outer s H E hr =>
    have hnd := sc_law_may.nd
    have tk : L2M.Takes false (cxOf (L2M.CX false P w) P w K mg base nm_law_may "_law_may" (defScope st_law_may) (He.ga K "_law_may") cdv A outer s H E) (fun cls d _ H => E cls d H) := L2M.takes_of rfl rfl rfl rfl
    (pdss_cons (pds_if (pdt_tru rfl (pd_c C_law_is_cell_fn hr (by decide) 0 (by decide) tk rfl (pda_cons (pd_var (pv 0)) pda_nil)))
      (pdss_one (pds_ret (pd_and rfl (pd_cmp (po_eq rfl hr.units) (pd_ix rfl (pd_var (pv 1)) pd_int (fun _ _ => rfl)) (pd_ix rfl (pd_var (pv 1)) pd_int (fun _ _ => rfl)) (nomark _)) (pd_one (pd_cmp (po_eq rfl hr.units) (pd_ix rfl (pd_var (pv 2)) pd_int (fun _ _ => rfl)) (pd_ix rfl (pd_var (pv 2)) pd_int (fun _ _ => rfl)) (nomark _))))))
      pdss_nil)
      (pdss_cons (pds_set hnd rfl (by first | exact Or.inl rfl | exact Or.inr rfl) (pd_or rfl (pd_not rfl (pd_or rfl (pd_ix rfl (pd_var (pv 1)) pd_int (fun _ _ => rfl)) (pd_one (pd_ix rfl (pd_var (pv 1)) pd_int (fun _ _ => rfl))))) (pd_one (pd_not rfl (pd_c C_law_is_columns_fn hr (by decide) 0 (by decide) tk rfl (pda_cons (pd_var (pv 0)) pda_nil))))))
      (pdss_cons (pds_set hnd rfl (by first | exact Or.inl rfl | exact Or.inr rfl) (pd_and rfl (pd_var (pv 3)) (pd_one (pd_or rfl (pd_not rfl (pd_ix rfl (pd_var (pv 1)) pd_int (fun _ _ => rfl))) (pd_one (pd_cmp po_isN (pd_ix rfl (pd_var (pv 0)) pd_int (fun _ _ => rfl)) pd_non (nomark _)))))))
      (pdss_cons (pds_set hnd rfl (by first | exact Or.inl rfl | exact Or.inr rfl) (pd_and rfl (pd_var (pv 3)) (pd_one (pd_or rfl (pd_not rfl (pd_or rfl (pd_ix rfl (pd_var (pv 2)) pd_int (fun _ _ => rfl)) (pd_one (pd_ix rfl (pd_var (pv 2)) pd_int (fun _ _ => rfl))))) (pd_one (pd_not rfl (pd_c C_law_is_rows_fn hr (by decide) 0 (by decide) tk rfl (pda_cons (pd_var (pv 0)) pda_nil))))))))
      (pdss_one (pds_ret (pd_and rfl (pd_var (pv 3)) (pd_one (pd_or rfl (pd_not rfl (pd_ix rfl (pd_var (pv 2)) pd_int (fun _ _ => rfl))) (pd_one (pd_cmp po_isN (pd_ix rfl (pd_var (pv 0)) pd_int (fun _ _ => rfl)) pd_non (nomark _))))))))))))
abbrev nm_are_marks : List Str := ["marks", "mark"]
theorem sc_are_marks : FnScope nm_are_marks ["marks"] (defScope st_are_marks) := ⟨rfl, rfl, rfl, by decide +kernel, rfl, by decide +kernel, by decide +kernel⟩
theorem ok_are_marks {fd : FuncData} {dvs : List V} {kws : List (Str × V)} (T : Fx K mg)  (F : FunD K "are_marks" "are_marks" (defArgs st_are_marks) (defBody st_are_marks) (defScope st_are_marks) dvs kws (He.ga K "are_marks") fd) :
    FnOk P w K mg base (L2M.CX false P w) 1 (He.ga K "are_marks") fd ["marks"] (spD (S0 K) 1 G_are_marks) :=
  fnD_ok (S := S0 K) F sc_are_marks fun n cdv A outer s H E hr =>
    have hnd := sc_are_marks.nd
    have tk : L2M.Takes false (cxOf (L2M.CX false P w) P w K mg base nm_are_marks "are_marks" (defScope st_are_marks) (He.ga K "are_marks") cdv A outer s H E) (fun cls d _ H => E cls d H) := L2M.takes_of rfl rfl rfl rfl
    (pdss_one (pds_ret (pd_and rfl (pd_blt (pb_isi rfl (T.ins n) (T.k_tuple n)) rfl T.f_isinstance (by decide +kernel) (pda_cons (pd_var (pv 0)) (pda_cons (pd_bvl rfl T.f_tuple (by decide +kernel)) pda_nil))) (pd_and rfl (pd_cmp (po_eq rfl hr.units) (pd_blt (pb_len rfl) rfl T.f_len (by decide +kernel) (pda_cons (pd_var (pv 0)) pda_nil)) pd_int (nomark _)) (pd_one (pd_blt (pb_all rfl rfl) rfl T.f_all (by decide +kernel) (pda_cons (pd_lc (own := [("mark", 1)]) rfl (by exact hnd) (pdi_any rfl (pd_var (pv 0))) (blkOk_by (own := [("mark", 1)]) (N := ["marks", "mark"]) (sc := defScope st_are_marks) (by decide +kernel)) (by decide) (fun _ _ _ _ _ => (pdg_name hnd rfl (by first | exact Or.inl rfl | exact Or.inr rfl))) (fun _ _ _ _ _ => pdts_nil) (fun _ _ _ _ _ => (pd_blt (pb_isi rfl (T.ins n) (T.k_bool n)) rfl T.f_isinstance (by decide +kernel) (pda_cons (pd_var (pv 1)) (pda_cons (pd_bvl rfl T.f_bool (by decide +kernel)) pda_nil))))) pda_nil)))))))
abbrev nm_Block_size : List Str := ["self"]
theorem sc_Block_size : FnScope nm_Block_size ["self"] (defScope st_Block_size) := ⟨rfl, rfl, rfl, by decide +kernel, rfl, by decide +kernel, by decide +kernel⟩
theorem ok_Block_size {fd : FuncData} {dvs : List V} {kws : List (Str × V)} (T : Fx K mg)  (F : FunD K "size" "Block.size" (defArgs st_Block_size) (defBody st_Block_size) (defScope st_Block_size) dvs kws (He.ma K (He.ga K "Block") "size") fd) :
    FnOk P w K mg base (L2M.CX false P w) 1 (He.ma K (He.ga K "Block") "size") fd ["self"] (spD (S0 K) 1 G_Block_size) :=
  fnD_ok (S := S0 K) F sc_Block_size fun n cdv A outer s H E hr =>
    have hnd := sc_Block_size.nd
    have tk : L2M.Takes false (cxOf (L2M.CX false P w) P w K mg base nm_Block_size "Block.size" (defScope st_Block_size) (He.ma K (He.ga K "Block") "size") cdv A outer s H E) (fun cls d _ H => E cls d H) := L2M.takes_of rfl rfl rfl rfl
    (pdss_cons (pds_if (PDW.pt (pdw_or (pdt_cmp po_is (pd_fld rfl (T.n_bottom n) (pd_var (pv 0))) pd_non (nomark _)) (pdw_or1 (pdt_cmp po_is (pd_fld rfl (T.n_right n) (pd_var (pv 0))) pd_non (nomark _)))))
      (pdss_one (pds_ret pd_non))
      pdss_nil)
      (pdss_one (pds_ret (pd_op po_mul (pd_op po_add (pd_op po_sub (pd_fld rfl (T.n_bottom n) (pd_var (pv 0))) (pd_fld rfl (T.n_top n) (pd_var (pv 0)))) pd_int) (pd_op po_add (pd_op po_sub (pd_fld rfl (T.n_right n) (pd_var (pv 0))) (pd_fld rfl (T.n_left n) (pd_var (pv 0)))) pd_int)))))
abbrev nm_may_be : List Str := ["marks", "stands", "last", "is_one"]
theorem sc_may_be : FnScope nm_may_be ["marks", "stands", "last", "is_one"] (defScope st_may_be) := ⟨rfl, rfl, rfl, by decide +kernel, rfl, by decide +kernel, by decide +kernel⟩
theorem ok_may_be {fd : FuncData} {dvs : List V} {kws : List (Str × V)} (T : Fx K mg)  (F : FunD K "may_be" "may_be" (defArgs st_may_be) (defBody st_may_be) (defScope st_may_be) dvs kws (He.ga K "may_be") fd) :
    FnOk P w K mg base (L2M.CX false P w) 1 (He.ga K "may_be") fd ["marks", "stands", "last", "is_one"] (spD (S0 K) 4 G_may_be) :=
  fnD_ok (S := S0 K) F sc_may_be fun n cdv A outer s H E hr =>
    have hnd := sc_may_be.nd
    have tk : L2M.Takes false (cxOf (L2M.CX false P w) P w K mg base nm_may_be "may_be" (defScope st_may_be) (He.ga K "may_be") cdv A outer s H E) (fun cls d _ H => E cls d H) := L2M.takes_of rfl rfl rfl rfl
    (pdss_cons (pds_if (PDW.pt (pdw_or (PDW.pt (pdw_and (pdt_tru rfl (pd_ix rfl (pd_var (pv 0)) pd_int (fun _ _ => rfl))) (pdw_and1 (pdt_not (pdt_tru rfl (pd_var (pv 1))))))) (pdw_or1 (PDW.pt (pdw_and (pdt_tru rfl (pd_ix rfl (pd_var (pv 0)) pd_int (fun _ _ => rfl))) (pdw_and1 (PDW.pt (pdw_or (pdt_not (pdt_tru rfl (pd_var (pv 1)))) (pdw_or1 (pdt_cmp po_is (pd_var (pv 2)) pd_non (nomark _)))))))))))
      (pdss_one (pds_ret pd_bl))
      pdss_nil)
      (pdss_one (pds_ret (pd_or rfl (pd_not rfl (pd_var (pv 3))) (pd_one (pd_cmp (po_eq rfl hr.units) (pd_ix rfl (pd_var (pv 0)) pd_int (fun _ _ => rfl)) (pd_ix rfl (pd_var (pv 0)) pd_int (fun _ _ => rfl)) (nomark _)))))))
abbrev nm_is_columns : List Str := ["block"]
theorem sc_is_columns : FnScope nm_is_columns ["block"] (defScope st_is_columns) := ⟨rfl, rfl, rfl, by decide +kernel, rfl, by decide +kernel, by decide +kernel⟩
theorem ok_is_columns {fd : FuncData} {dvs : List V} {kws : List (Str × V)} (T : Fx K mg)  (F : FunD K "is_columns" "is_columns" (defArgs st_is_columns) (defBody st_is_columns) (defScope st_is_columns) dvs kws (He.ga K "is_columns") fd) :
    FnOk P w K mg base (L2M.CX false P w) 1 (He.ga K "is_columns") fd ["block"] (spD (S0 K) 1 G_is_columns) :=
  fnD_ok (S := S0 K) F sc_is_columns fun n cdv A outer s H E hr =>
    have hnd := sc_is_columns.nd
    have tk : L2M.Takes false (cxOf (L2M.CX false P w) P w K mg base nm_is_columns "is_columns" (defScope st_is_columns) (He.ga K "is_columns") cdv A outer s H E) (fun cls d _ H => E cls d H) := L2M.takes_of rfl rfl rfl rfl
    (pdss_one (pds_ret (pd_and rfl (pd_cmp (po_eq rfl hr.units) (pd_fld rfl (T.n_top n) (pd_var (pv 0))) pd_int (nomark _)) (pd_and rfl (pd_cmp po_is (pd_fld rfl (T.n_bottom n) (pd_var (pv 0))) pd_non (nomark _)) (pd_one (pd_cmp po_isN (pd_fld rfl (T.n_right n) (pd_var (pv 0))) pd_non (nomark _)))))))
abbrev nm_is_rows : List Str := ["block"]
theorem sc_is_rows : FnScope nm_is_rows ["block"] (defScope st_is_rows) := ⟨rfl, rfl, rfl, by decide +kernel, rfl, by decide +kernel, by decide +kernel⟩
theorem ok_is_rows {fd : FuncData} {dvs : List V} {kws : List (Str × V)} (T : Fx K mg)  (F : FunD K "is_rows" "is_rows" (defArgs st_is_rows) (defBody st_is_rows) (defScope st_is_rows) dvs kws (He.ga K "is_rows") fd) :
    FnOk P w K mg base (L2M.CX false P w) 1 (He.ga K "is_rows") fd ["block"] (spD (S0 K) 1 G_is_rows) :=
  fnD_ok (S := S0 K) F sc_is_rows fun n cdv A outer s H E hr =>
    have hnd := sc_is_rows.nd
    have tk : L2M.Takes false (cxOf (L2M.CX false P w) P w K mg base nm_is_rows "is_rows" (defScope st_is_rows) (He.ga K "is_rows") cdv A outer s H E) (fun cls d _ H => E cls d H) := L2M.takes_of rfl rfl rfl rfl
    (pdss_one (pds_ret (pd_and rfl (pd_cmp (po_eq rfl hr.units) (pd_fld rfl (T.n_left n) (pd_var (pv 0))) pd_int (nomark _)) (pd_and rfl (pd_cmp po_is (pd_fld rfl (T.n_right n) (pd_var (pv 0))) pd_non (nomark _)) (pd_one (pd_cmp po_isN (pd_fld rfl (T.n_bottom n) (pd_var (pv 0))) pd_non (nomark _)))))))
abbrev nm_Name_init__ : List Str := ["self", "block", "rows", "columns", "is_one", "good"]
theorem sc_Name_init__ : FnScope nm_Name_init__ ["self", "block", "rows", "columns"] (defScope st_Name_init__) := ⟨rfl, rfl, rfl, by decide +kernel, rfl, by decide +kernel, by decide +kernel⟩
theorem ok_Name_init__ {fd : FuncData} {dvs : List V} {kws : List (Str × V)} (T : Fx K mg) (C_are_marks_fn : CalD false P w K mg base (S0 K) 1 "are_marks" 1 G_are_marks dfl_are_marks) (C_Block_size_mt : MetD false P w K mg base (S0 K) 1 "Block" "size" 1 G_Block_size dfl_Block_size) (C_may_be_fn : CalD false P w K mg base (S0 K) 1 "may_be" 4 G_may_be dfl_may_be) (C_is_columns_fn : CalD false P w K mg base (S0 K) 1 "is_columns" 1 G_is_columns dfl_is_columns) (C_is_rows_fn : CalD false P w K mg base (S0 K) 1 "is_rows" 1 G_is_rows dfl_is_rows) (F : FunD K "__init__" "Name.__init__" (defArgs st_Name_init__) (defBody st_Name_init__) (defScope st_Name_init__) dvs kws (He.ma K (He.ga K "Name") "__init__") fd) :
    FnOk P w K mg base (L2M.CX false P w) 2 (He.ma K (He.ga K "Name") "__init__") fd ["self", "block", "rows", "columns"] (spD (S0 K) 4 G_Name_init__) :=
  fnD_ok (S := S0 K) F sc_Name_init__ fun n cdv A outer s H E hr =>
    have hnd := sc_Name_init__.nd
    have tk : L2M.Takes false (cxOf (L2M.CX false P w) P w K mg base nm_Name_init__ "Name.__init__" (defScope st_Name_init__) (He.ma K (He.ga K "Name") "__init__") cdv A outer s H E) (fun cls d _ H => E cls d H) := L2M.takes_of rfl rfl rfl rfl
    (pdss_cons (pds_if (pdt_cmp po_is (pd_var (pv 2)) pd_non (nomark _))
      (pdss_one (pds_set hnd rfl (by first | exact Or.inl rfl | exact Or.inr rfl) (pd_tup (pda_cons pd_bl (pda_cons pd_bl pda_nil)))))
      pdss_nil)
      (pdss_cons (pds_if (pdt_cmp po_is (pd_var (pv 3)) pd_non (nomark _))
      (pdss_one (pds_set hnd rfl (by first | exact Or.inl rfl | exact Or.inr rfl) (pd_tup (pda_cons pd_bl (pda_cons pd_bl pda_nil)))))
      pdss_nil)
      (pdss_cons (pds_if (PDW.pt (pdw_or (pdt_not (pdt_tru rfl (pd_blt (pb_isi rfl (T.ins n) (T.k_Block n)) rfl T.f_isinstance (by decide +kernel) (pda_cons (pd_var (pv 1)) (pda_cons (pd_glo rfl T.g_Block) pda_nil))))) (pdw_or (pdt_not (pdt_tru rfl (pd_c C_are_marks_fn hr (by decide) 0 (by decide) tk rfl (pda_cons (pd_var (pv 2)) pda_nil)))) (pdw_or1 (pdt_not (pdt_tru rfl (pd_c C_are_marks_fn hr (by decide) 0 (by decide) tk rfl (pda_cons (pd_var (pv 3)) pda_nil))))))))
      (pdss_one (pds_raise rfl (T.x_NoName n) rfl tk rfl T.g_NoName))
      pdss_nil)
      (pdss_cons (pds_set hnd rfl (by first | exact Or.inl rfl | exact Or.inr rfl) (pd_cmp (po_eq rfl hr.units) (pd_m0 rfl C_Block_size_mt hr (by decide) 0 (by decide) tk (pd_var (pv 1))) pd_int (nomark _)))
      (pdss_cons (pds_set hnd rfl (by first | exact Or.inl rfl | exact Or.inr rfl) (pd_c C_may_be_fn hr (by decide) 0 (by decide) tk rfl (pda_cons (pd_var (pv 2)) (pda_cons (pd_not rfl (pd_c C_is_columns_fn hr (by decide) 0 (by decide) tk rfl (pda_cons (pd_var (pv 1)) pda_nil))) (pda_cons (pd_fld rfl (T.n_bottom n) (pd_var (pv 1))) (pda_cons (pd_var (pv 4)) pda_nil))))))
      (pdss_cons (pds_if (PDW.pt (pdw_or (pdt_not (pdt_tru rfl (pd_var (pv 5)))) (pdw_or1 (pdt_not (pdt_tru rfl (pd_c C_may_be_fn hr (by decide) 0 (by decide) tk rfl (pda_cons (pd_var (pv 3)) (pda_cons (pd_not rfl (pd_c C_is_rows_fn hr (by decide) 0 (by decide) tk rfl (pda_cons (pd_var (pv 1)) pda_nil))) (pda_cons (pd_fld rfl (T.n_right n) (pd_var (pv 1))) (pda_cons (pd_var (pv 4)) pda_nil))))))))))
      (pdss_one (pds_raise rfl (T.x_NoName n) rfl tk rfl T.g_NoName))
      pdss_nil)
      (pdss_cons (pds_fld rfl (T.n_block n) (pd_var (pv 0)) (pd_var (pv 1)))
      (pdss_cons (pds_fld rfl (T.n_rows n) (pd_var (pv 0)) (pd_var (pv 2)))
      (pdss_one (pds_fld rfl (T.n_columns n) (pd_var (pv 0)) (pd_var (pv 3))))))))))))
abbrev nm_law_word : List Str := ["_law_e", "_law_kinds", "_law_others", "_law_words", "_law_k"]
theorem sc_law_word : FnScope nm_law_word ["_law_e"] (defScope st_law_word) := ⟨rfl, rfl, rfl, by decide +kernel, rfl, by decide +kernel, by decide +kernel⟩
theorem ok_law_word {fd : FuncData} {dvs : List V} {kws : List (Str × V)} (T : Fx K mg)  (F : FunD K "_law_word" "_law_word" (defArgs st_law_word) (defBody st_law_word) (defScope st_law_word) dvs kws (He.ga K "_law_word") fd) :
    L2P.FnP P w K mg base (L2M.CX false P w) 1 (He.ga K "_law_word") fd ["_law_e"] (fun p => spD ((S0 K).pin p) 1 G_law_word) :=
  fnP_ok (S := S0 K) F sc_law_word fun n cdv A outer s H E p hr hot =>
    have hnd := sc_law_word.nd
    have tk : L2M.Takes false (L2H.cxH (L2M.CX false P w) P w K mg base nm_law_word "_law_word" (defScope st_law_word) (He.ga K "_law_word") cdv A outer s H E p) (fun cls d _ H => E cls d H) := L2M.takes_of rfl rfl rfl rfl
    have hp : p ∈ (L2H.cxH (L2M.CX false P w) P w K mg base nm_law_word "_law_word" (defScope st_law_word) (He.ga K "_law_word") cdv A outer s H E p).pn := List.mem_cons_self
    have hpn : ∀ q ∈ ((at0 (S0 K) n).pin p).pn, q ∈ (L2H.cxH (L2M.CX false P w) P w K mg base nm_law_word "_law_word" (defScope st_law_word) (He.ga K "_law_word") cdv A outer s H E p).pn := fun q h => h
    have hc : L2H.HotC (L2H.cxH (L2M.CX false P w) P w K mg base nm_law_word "_law_word" (defScope st_law_word) (He.ga K "_law_word") cdv A outer s H E p) := ⟨p, hot, hp⟩
    (pdss_cons (pds_set hnd rfl (by first | exact Or.inl rfl | exact Or.inr rfl) (pd_lst (pda_cons (pd_blt (pb_isX rfl hpn (T.xk_NoCell n p)) rfl T.f_isinstance (by decide +kernel) (pda_cons (pd_var (pv 0)) (pda_cons (pd_glo rfl T.g_NoCell) pda_nil))) (pda_cons (pd_blt (pb_isX rfl hpn (T.xk_NoColumn n p)) rfl T.f_isinstance (by decide +kernel) (pda_cons (pd_var (pv 0)) (pda_cons (pd_glo rfl T.g_NoColumn) pda_nil))) (pda_cons (pd_blt (pb_isX rfl hpn (T.xk_NoBlock n p)) rfl T.f_isinstance (by decide +kernel) (pda_cons (pd_var (pv 0)) (pda_cons (pd_glo rfl T.g_NoBlock) pda_nil))) (pda_cons (pd_blt (pb_isX rfl hpn (T.xk_NoText n p)) rfl T.f_isinstance (by decide +kernel) (pda_cons (pd_var (pv 0)) (pda_cons (pd_glo rfl T.g_NoText) pda_nil))) pda_nil))))))
      (pdss_cons (pds_set hnd rfl (by first | exact Or.inl rfl | exact Or.inr rfl) (pd_op po_add (pd_var (pv 1)) (pd_lst (pda_cons (pd_blt (pb_isX rfl hpn (T.xk_NoName n p)) rfl T.f_isinstance (by decide +kernel) (pda_cons (pd_var (pv 0)) (pda_cons (pd_glo rfl T.g_NoName) pda_nil))) (pda_cons (pd_blt (pb_isX rfl hpn (T.xk_NoManner n p)) rfl T.f_isinstance (by decide +kernel) (pda_cons (pd_var (pv 0)) (pda_cons (pd_glo rfl T.g_NoManner) pda_nil))) (pda_cons (pd_blt (pb_isX rfl hpn (T.xk_Gone n p)) rfl T.f_isinstance (by decide +kernel) (pda_cons (pd_var (pv 0)) (pda_cons (pd_glo rfl T.g_Gone) pda_nil))) (pda_cons (pd_blt (pb_isX rfl hpn (T.xk_NoNumber n p)) rfl T.f_isinstance (by decide +kernel) (pda_cons (pd_var (pv 0)) (pda_cons (pd_glo rfl T.g_NoNumber) pda_nil))) pda_nil)))))))
      (pdss_cons (pds_set hnd rfl (by first | exact Or.inl rfl | exact Or.inr rfl) (pd_isXT (us := ["Endless", "NoArea", "NoChange", "NoOrder", "NoPlace", "NoRow"]) rfl hpn (fun u hu => by simp only [List.mem_cons, List.not_mem_nil, or_false] at hu; rcases hu with hu | hu | hu | hu | hu | hu <;> subst hu <;> first | exact T.xk_Endless n p | exact T.xk_NoArea n p | exact T.xk_NoChange n p | exact T.xk_NoOrder n p | exact T.xk_NoPlace n p | exact T.xk_NoRow n p) (fun z => nomatch z) (by decide) rfl T.f_isinstance (pd_var (pv 0)) (clsT_cons rfl T.g_Endless (clsT_cons rfl T.g_NoArea (clsT_cons rfl T.g_NoChange (clsT_cons rfl T.g_NoOrder (clsT_cons rfl T.g_NoPlace (clsT_cons rfl T.g_NoRow clsT_nil))))))))
      (pdss_cons (pds_set hnd rfl (by first | exact Or.inl rfl | exact Or.inr rfl) (pd_or rfl (pd_var (pv 2)) (pd_one (pd_isXT (us := ["NoSheet", "NoValue", "NoWord", "Ring", "Unknown"]) rfl hpn (fun u hu => by simp only [List.mem_cons, List.not_mem_nil, or_false] at hu; rcases hu with hu | hu | hu | hu | hu <;> subst hu <;> first | exact T.xk_NoSheet n p | exact T.xk_NoValue n p | exact T.xk_NoWord n p | exact T.xk_Ring n p | exact T.xk_Unknown n p) (fun z => nomatch z) (by decide) rfl T.f_isinstance (pd_var (pv 0)) (clsT_cons rfl T.g_NoSheet (clsT_cons rfl T.g_NoValue (clsT_cons rfl T.g_NoWord (clsT_cons rfl T.g_Ring (clsT_cons rfl T.g_Unknown clsT_nil)))))))))
      (pdss_cons (pds_set hnd rfl (by first | exact Or.inl rfl | exact Or.inr rfl) (pd_lst (pda_cons (pd_str (by decide +kernel)) (pda_cons (pd_str (by decide +kernel)) (pda_cons (pd_str (by decide +kernel)) (pda_cons (pd_str (by decide +kernel)) (pda_cons (pd_str (by decide +kernel)) (pda_cons (pd_str (by decide +kernel)) (pda_cons (pd_str (by decide +kernel)) (pda_cons (pd_str (by decide +kernel)) pda_nil))))))))))
      (pdss_cons (pds_if (PDW.pt (pdw_or (pdt_tru rfl (pd_var (pv 2))) (pdw_or1 (pdt_not (pdt_tru rfl (pd_blt (pb_isX rfl hpn (T.xk_ValueError n p)) rfl T.f_isinstance (by decide +kernel) (pda_cons (pd_var (pv 0)) (pda_cons (pd_bvl rfl T.f_ValueError (by decide +kernel)) pda_nil))))))))
      (pdss_one (pds_ret (pd_str (by decide +kernel))))
      pdss_nil)
      (pdss_one (pds_ret (pd_sm1 (pm_join rfl) PySem.F.slot_str_join PySem.F.type_str_join (pd_str (by decide +kernel)) (pd_lcH (own := [("_law_k", 4)]) hc (by exact hnd) (pdiH_range1 rfl T.f_range (pda_cons pd_int pda_nil)) (blkOk_by (own := [("_law_k", 4)]) (N := ["_law_e", "_law_kinds", "_law_others", "_law_words", "_law_k"]) (sc := defScope st_law_word) (by decide +kernel)) (by decide) (fun _ _ _ _ _ => (pdg_name hnd rfl (by first | exact Or.inl rfl | exact Or.inr rfl))) (fun _ _ _ _ _ => (pdts_one (pdt_tru rfl (pd_ix rfl (pd_var (pv 1)) (pd_var (pv 4)) (fun _ _ => rfl))))) (fun _ _ _ _ _ => (pd_ix rfl (pd_var (pv 3)) (pd_var (pv 4)) (fun _ _ => rfl)))))))))))))
abbrev nm_law_tried : List Str := ["_law_patch", "_law_ups", "_law_sides", "_law_way", "_law_found", "_law_e"]
theorem sc_law_tried : FnScope nm_law_tried ["_law_patch", "_law_ups", "_law_sides", "_law_way"] (defScope st_law_tried) := ⟨rfl, rfl, rfl, by decide +kernel, rfl, by decide +kernel, by decide +kernel⟩
theorem ok_law_tried {fd : FuncData} {dvs : List V} {kws : List (Str × V)} (T : Fx K mg) (C_Name_init___mk : MakD false P w K mg base (S0 K) 2 "Name" 4 G_Name_init__ dfl_Name_init__) (C_Name_init___mkK0_columns_rows_block : MakK false P w K mg base (S0 K) 2 "Name" 4 G_Name_init__ 0 ["columns", "rows", "block"] [2, 1, 0] dfl_Name_init__) (C_Name_init___mkK1_columns_rows : MakK false P w K mg base (S0 K) 2 "Name" 4 G_Name_init__ 1 ["columns", "rows"] [0, 2, 1] dfl_Name_init__) (C_law_word_hp : CalP P w K mg base (S0 K) 1 "_law_word" 1 G_law_word) (F : FunD K "_law_tried" "_law_tried" (defArgs st_law_tried) (defBody st_law_tried) (defScope st_law_tried) dvs kws (He.ga K "_law_tried") fd) :
    FnOk P w K mg base (L2M.CX false P w) 4 (He.ga K "_law_tried") fd ["_law_patch", "_law_ups", "_law_sides", "_law_way"] (spD (S0 K) 4 G_law_tried) :=
  fnD_ok (S := S0 K) F sc_law_tried fun n cdv A outer s H E hr =>
    have hnd := sc_law_tried.nd
    have tk : L2M.Takes false (cxOf (L2M.CX false P w) P w K mg base nm_law_tried "_law_tried" (defScope st_law_tried) (He.ga K "_law_tried") cdv A outer s H E) (fun cls d _ H => E cls d H) := L2M.takes_of rfl rfl rfl rfl
    (pdss_cons (pds_tryH (xs := (["NoCell", "NoColumn", "NoBlock", "NoName"] : List Str)) (i := 5) rfl rfl rfl rfl (by exact hnd) rfl rfl rfl T.g_CellError (T.xm_CellError n) tk (fun _ _ _ tk hpo => (pdss_one (pds_if (pdt_cmp (po_eq rfl hr.units) (pd_var (pv 3)) pd_int (nomark _))
      (pdss_one (pds_set hnd rfl (by first | exact Or.inl rfl | exact Or.inr rfl) (pd_mk rfl C_Name_init___mk hr (by decide) 2 (by decide) tk rfl (pda_cons (pd_var (pv 0)) (pda_cons (pd_var (pv 1)) (pda_cons (pd_var (pv 2)) pda_nil))))))
      (pdss_one (pds_if (pdt_cmp (po_eq rfl hr.units) (pd_var (pv 3)) pd_int (nomark _))
      (pdss_one (pds_set hnd rfl (by first | exact Or.inl rfl | exact Or.inr rfl) (pd_mkk0 rfl C_Name_init___mkK0_columns_rows_block hr (by decide) tk rfl (pdk_cons (pd_var (pv 2)) (pdk_cons (pd_var (pv 1)) (pdk_cons (pd_var (pv 0)) pdk_nil))))))
      (pdss_one (pds_set hnd rfl (by first | exact Or.inl rfl | exact Or.inr rfl) (pd_mkk rfl C_Name_init___mkK1_columns_rows hr (by decide) tk rfl (pda_cons (pd_var (pv 0)) pda_nil) (pdk_cons (pd_var (pv 2)) (pdk_cons (pd_var (pv 1)) pdk_nil))))))))))
      (fun a oe pn hot hp hpn hc => have hr := L2H.roomH_mark (h := some (.ref a)) hr; (pdss_one (pds_ret (pd_tup (pda_cons (pd_str (by decide +kernel)) (pda_cons (pd_cP C_law_word_hp hr (by decide) hot hp takes_wNo rfl (pda_cons (pd_var (pv 5)) pda_nil)) pda_nil)))))))
      (pdss_one (pds_ret (pd_tup (pda_cons (pd_str (by decide +kernel)) (pda_cons (pd_tup (pda_cons (pd_fld rfl (T.n_block n) (pd_var (pv 4))) (pda_cons (pd_fld rfl (T.n_rows n) (pd_var (pv 4))) (pda_cons (pd_fld rfl (T.n_columns n) (pd_var (pv 4))) pda_nil)))) pda_nil))))))
abbrev nm_Block_eq__ : List Str := ["self", "other", "here"]
theorem sc_Block_eq__ : FnScope nm_Block_eq__ ["self", "other"] (defScope st_Block_eq__) := ⟨rfl, rfl, rfl, by decide +kernel, rfl, by decide +kernel, by decide +kernel⟩
theorem ok_Block_eq__ {fd : FuncData} {dvs : List V} {kws : List (Str × V)} (T : Fx K mg)  (F : FunD K "__eq__" "Block.__eq__" (defArgs st_Block_eq__) (defBody st_Block_eq__) (defScope st_Block_eq__) dvs kws (He.ma K (He.ga K "Block") "__eq__") fd) :
    FnOk P w K mg base (L2M.CX false P w) 1 (He.ma K (He.ga K "Block") "__eq__") fd ["self", "other"] (spD (S0 K) 2 G_Block_eq__) :=
  fnD_ok (S := S0 K) F sc_Block_eq__ fun n cdv A outer s H E hr =>
    have hnd := sc_Block_eq__.nd
    have tk : L2M.Takes false (cxOf (L2M.CX false P w) P w K mg base nm_Block_eq__ "Block.__eq__" (defScope st_Block_eq__) (He.ma K (He.ga K "Block") "__eq__") cdv A outer s H E) (fun cls d _ H => E cls d H) := L2M.takes_of rfl rfl rfl rfl
    (pdss_cons (pds_if (pdt_not (pdt_tru rfl (pd_blt (pb_isi rfl (T.ins n) (T.k_Block n)) rfl T.f_isinstance (by decide +kernel) (pda_cons (pd_var (pv 1)) (pda_cons (pd_glo rfl T.g_Block) pda_nil)))))
      (pdss_one (pds_ret pd_bl))
      pdss_nil)
      (pdss_cons (pds_set hnd rfl (by first | exact Or.inl rfl | exact Or.inr rfl) (pd_tup (pda_cons (pd_fld rfl (T.n_top n) (pd_var (pv 0))) (pda_cons (pd_fld rfl (T.n_left n) (pd_var (pv 0))) (pda_cons (pd_fld rfl (T.n_bottom n) (pd_var (pv 0))) (pda_cons (pd_fld rfl (T.n_right n) (pd_var (pv 0))) pda_nil))))))
      (pdss_one (pds_ret (pd_cmp (po_eq rfl hr.units) (pd_var (pv 2)) (pd_tup (pda_cons (pd_fld rfl (T.n_top n) (pd_var (pv 1))) (pda_cons (pd_fld rfl (T.n_left n) (pd_var (pv 1))) (pda_cons (pd_fld rfl (T.n_bottom n) (pd_var (pv 1))) (pda_cons (pd_fld rfl (T.n_right n) (pd_var (pv 1))) pda_nil))))) (nomark _))))))
abbrev nm_law_all_ways : List Str := ["_law_four", "_law_patch", "_law_well_here", "_law_k", "_law_ups", "_law_sides", "_law_due"]
theorem sc_law_all_ways : FnScope nm_law_all_ways ["_law_four", "_law_patch", "_law_well_here"] (defScope st_law_all_ways) := ⟨rfl, rfl, rfl, by decide +kernel, rfl, by decide +kernel, by decide +kernel⟩
theorem ok_law_all_ways {fd : FuncData} {dvs : List V} {kws : List (Str × V)} (T : Fx K mg) (C_law_may_fn : CalD false P w K mg base (S0 K) 2 "_law_may" 3 G_law_may dfl_law_may) (C_law_tried_fn : CalD false P w K mg base (S0 K) 4 "_law_tried" 4 G_law_tried dfl_law_tried) (C_law_draw_fn : CalD false P w K mg base (S0 K) 1 "_law_draw" 2 G_law_draw dfl_law_draw) (C_Block_eq___mt : MetD false P w K mg base (S0 K) 1 "Block" "__eq__" 2 G_Block_eq__ dfl_Block_eq__) (F : FunD K "_law_all_ways" "_law_all_ways" (defArgs st_law_all_ways) (defBody st_law_all_ways) (defScope st_law_all_ways) dvs kws (He.ga K "_law_all_ways") fd) :
    FnOk P w K mg base (L2M.CX false P w) 6 (He.ga K "_law_all_ways") fd ["_law_four", "_law_patch", "_law_well_here"] (spD (S0 K) 3 G_law_all_ways) :=
  fnD_ok (S := S0 K) F sc_law_all_ways fun n cdv A outer s H E hr =>
    have hnd := sc_law_all_ways.nd
    have tk : L2M.Takes false (cxOf (L2M.CX false P w) P w K mg base nm_law_all_ways "_law_all_ways" (defScope st_law_all_ways) (He.ga K "_law_all_ways") cdv A outer s H E) (fun cls d _ H => E cls d H) := L2M.takes_of rfl rfl rfl rfl
    (pdss_cons (pds_for (by exact PassesOwn.leaving) rfl (pdi_range1 rfl T.f_range (pda_cons pd_int pda_nil)) (pdg_name hnd rfl (by first | exact Or.inl rfl | exact Or.inr rfl))
      (pdss_cons (pds_set hnd rfl (by first | exact Or.inl rfl | exact Or.inr rfl) (pd_tup (pda_cons (pd_cmp (po_eq rfl hr.units) (pd_op po_mod (pd_var (pv 3)) pd_int) pd_int (nomark _)) (pda_cons (pd_cmp (po_eq rfl hr.units) (pd_op po_mod (pd_op po_div (pd_var (pv 3)) pd_int) pd_int) pd_int (nomark _)) pda_nil))))
      (pdss_cons (pds_set hnd rfl (by first | exact Or.inl rfl | exact Or.inr rfl) (pd_tup (pda_cons (pd_cmp (po_eq rfl hr.units) (pd_op po_mod (pd_op po_div (pd_var (pv 3)) pd_int) pd_int) pd_int (nomark _)) (pda_cons (pd_cmp (po_eq rfl hr.units) (pd_op po_div (pd_var (pv 3)) pd_int) pd_int (nomark _)) pda_nil))))
      (pdss_cons (pds_set hnd rfl (by first | exact Or.inl rfl | exact Or.inr rfl) (pd_tup (pda_cons (pd_str (by decide +kernel)) (pda_cons (pd_str (by decide +kernel)) pda_nil))))
      (pdss_cons (pds_if (pdt_tru rfl (pd_c C_law_may_fn hr (by decide) 0 (by decide) tk rfl (pda_cons (pd_var (pv 0)) (pda_cons (pd_var (pv 4)) (pda_cons (pd_var (pv 5)) pda_nil)))))
      (pdss_one (pds_set hnd rfl (by first | exact Or.inl rfl | exact Or.inr rfl) (pd_tup (pda_cons (pd_str (by decide +kernel)) (pda_cons (pd_tup (pda_cons (pd_var (pv 1)) (pda_cons (pd_var (pv 4)) (pda_cons (pd_var (pv 5)) pda_nil)))) pda_nil)))))
      pdss_nil)
      (pdss_one (pds_if (pdt_neO (pdt_neT (tb := [("Block", G_Block_eq__)]) rfl tk hr (by decide) (own_cons (own_at0 rfl C_Block_eq___mt (Nat.le_refl _)) own_nil) (pd_c C_law_tried_fn hr (by decide) 0 (by decide) tk rfl (pda_cons (pd_var (pv 1)) (pda_cons (pd_var (pv 4)) (pda_cons (pd_var (pv 5)) (pda_cons (pd_c C_law_draw_fn hr (by decide) 0 (by decide) tk rfl (pda_cons (pd_var (pv 2)) (pda_cons pd_int pda_nil))) pda_nil))))) (pd_var (pv 6)) (nomark _)) (pdt_cmp (po_ne rfl hr.units) (pd_c C_law_tried_fn hr (by decide) 0 (by decide) tk rfl (pda_cons (pd_var (pv 1)) (pda_cons (pd_var (pv 4)) (pda_cons (pd_var (pv 5)) (pda_cons (pd_c C_law_draw_fn hr (by decide) 0 (by decide) tk rfl (pda_cons (pd_var (pv 2)) (pda_cons pd_int pda_nil))) pda_nil))))) (pd_var (pv 6)) (nomark _)))
      (pdss_one (pds_ret pd_bl))
      pdss_nil)))))))
      (pdss_one (pds_ret pd_bl)))
abbrev nm_law_bad : List Str := ["_law_well_here", "_law_some"]
theorem sc_law_bad : FnScope nm_law_bad ["_law_well_here"] (defScope st_law_bad) := ⟨rfl, rfl, rfl, by decide +kernel, rfl, by decide +kernel, by decide +kernel⟩
theorem ok_law_bad {fd : FuncData} {dvs : List V} {kws : List (Str × V)} (T : Fx K mg) (C_law_draw_fn : CalD false P w K mg base (S0 K) 1 "_law_draw" 2 G_law_draw dfl_law_draw) (F : FunD K "_law_bad" "_law_bad" (defArgs st_law_bad) (defBody st_law_bad) (defScope st_law_bad) dvs kws (He.ga K "_law_bad") fd) :
    FnOk P w K mg base (L2M.CX false P w) 2 (He.ga K "_law_bad") fd ["_law_well_here"] (spD (S0 K) 1 G_law_bad) :=
  fnD_ok (S := S0 K) F sc_law_bad fun n cdv A outer s H E hr =>
    have hnd := sc_law_bad.nd
    have tk : L2M.Takes false (cxOf (L2M.CX false P w) P w K mg base nm_law_bad "_law_bad" (defScope st_law_bad) (He.ga K "_law_bad") cdv A outer s H E) (fun cls d _ H => E cls d H) := L2M.takes_of rfl rfl rfl rfl
    (pdss_cons (pds_set hnd rfl (by first | exact Or.inl rfl | exact Or.inr rfl) (pd_lst (pda_cons (pd_lst (pda_cons pd_bl (pda_cons pd_bl pda_nil))) (pda_cons (pd_tup (pda_cons pd_bl pda_nil)) (pda_cons (pd_tup (pda_cons pd_bl (pda_cons pd_bl (pda_cons pd_bl pda_nil)))) (pda_cons (pd_tup (pda_cons pd_int (pda_cons pd_int pda_nil))) (pda_cons (pd_tup (pda_cons pd_int (pda_cons pd_bl pda_nil))) (pda_cons pd_bl (pda_cons pd_int (pda_cons (pd_str (by decide +kernel)) (pda_cons (pd_tup (pda_cons pd_non (pda_cons pd_non pda_nil))) (pda_cons (pd_tup pda_nil) pda_nil))))))))))))
      (pdss_one (pds_ret (pd_ix rfl (pd_var (pv 1)) (pd_c C_law_draw_fn hr (by decide) 0 (by decide) tk rfl (pda_cons (pd_var (pv 0)) (pda_cons pd_int pda_nil))) (fun _ _ => rfl)))))
abbrev nm_law_others_refused : List Str := ["_law_patch", "_law_ups", "_law_sides", "_law_well_here", "_law_some", "_law_things", "_law_one"]
theorem sc_law_others_refused : FnScope nm_law_others_refused ["_law_patch", "_law_ups", "_law_sides", "_law_well_here"] (defScope st_law_others_refused) := ⟨rfl, rfl, rfl, by decide +kernel, rfl, by decide +kernel, by decide +kernel⟩
theorem ok_law_others_refused {fd : FuncData} {dvs : List V} {kws : List (Str × V)} (T : Fx K mg) (C_law_bad_fn : CalD false P w K mg base (S0 K) 2 "_law_bad" 1 G_law_bad dfl_law_bad) (C_Name_init___mk : MakD false P w K mg base (S0 K) 2 "Name" 4 G_Name_init__ dfl_Name_init__) (C_law_draw_fn : CalD false P w K mg base (S0 K) 1 "_law_draw" 2 G_law_draw dfl_law_draw) (C_law_tried_fn : CalD false P w K mg base (S0 K) 4 "_law_tried" 4 G_law_tried dfl_law_tried) (F : FunD K "_law_others_refused" "_law_others_refused" (defArgs st_law_others_refused) (defBody st_law_others_refused) (defScope st_law_others_refused) dvs kws (He.ga K "_law_others_refused") fd) :
    FnOk P w K mg base (L2M.CX false P w) 5 (He.ga K "_law_others_refused") fd ["_law_patch", "_law_ups", "_law_sides", "_law_well_here"] (spD (S0 K) 4 G_law_others_refused) :=
  fnD_ok (S := S0 K) F sc_law_others_refused fun n cdv A outer s H E hr =>
    have hnd := sc_law_others_refused.nd
    have tk : L2M.Takes false (cxOf (L2M.CX false P w) P w K mg base nm_law_others_refused "_law_others_refused" (defScope st_law_others_refused) (He.ga K "_law_others_refused") cdv A outer s H E) (fun cls d _ H => E cls d H) := L2M.takes_of rfl rfl rfl rfl
    (pdss_cons (pds_set hnd rfl (by first | exact Or.inl rfl | exact Or.inr rfl) (pd_lst (pda_cons (pd_tup (pda_cons (pd_var (pv 0)) (pda_cons (pd_c C_law_bad_fn hr (by decide) 0 (by decide) tk rfl (pda_cons (pd_var (pv 3)) pda_nil)) (pda_cons (pd_var (pv 2)) pda_nil)))) (pda_cons (pd_tup (pda_cons (pd_var (pv 0)) (pda_cons (pd_var (pv 1)) (pda_cons (pd_c C_law_bad_fn hr (by decide) 0 (by decide) tk rfl (pda_cons (pd_var (pv 3)) pda_nil)) pda_nil)))) (pda_cons (pd_tup (pda_cons (pd_var (pv 0)) (pda_cons (pd_c C_law_bad_fn hr (by decide) 0 (by decide) tk rfl (pda_cons (pd_var (pv 3)) pda_nil)) (pda_cons (pd_c C_law_bad_fn hr (by decide) 0 (by decide) tk rfl (pda_cons (pd_var (pv 3)) pda_nil)) pda_nil)))) pda_nil)))))
      (pdss_cons (pds_set hnd rfl (by first | exact Or.inl rfl | exact Or.inr rfl) (pd_lst (pda_cons pd_non (pda_cons (pd_str (by decide +kernel)) (pda_cons (pd_tup (pda_cons pd_int (pda_cons pd_int (pda_cons pd_int (pda_cons pd_int pda_nil))))) (pda_cons (pd_lst (pda_cons (pd_var (pv 0)) pda_nil)) (pda_cons pd_bl (pda_cons pd_int (pda_cons pd_dct0 (pda_cons (pd_mk rfl C_Name_init___mk hr (by decide) 0 (by decide) tk rfl (pda_cons (pd_var (pv 0)) pda_nil)) pda_nil))))))))))
      (pdss_cons (pds_set hnd rfl (by first | exact Or.inl rfl | exact Or.inr rfl) (pd_op po_add (pd_var (pv 4)) (pd_lst (pda_cons (pd_tup (pda_cons (pd_ix rfl (pd_var (pv 5)) (pd_c C_law_draw_fn hr (by decide) 0 (by decide) tk rfl (pda_cons (pd_var (pv 3)) (pda_cons pd_int pda_nil))) (fun _ _ => rfl)) (pda_cons (pd_var (pv 1)) (pda_cons (pd_var (pv 2)) pda_nil)))) (pda_cons (pd_tup (pda_cons (pd_ix rfl (pd_var (pv 5)) (pd_c C_law_draw_fn hr (by decide) 0 (by decide) tk rfl (pda_cons (pd_var (pv 3)) (pda_cons pd_int pda_nil))) (fun _ _ => rfl)) (pda_cons (pd_c C_law_bad_fn hr (by decide) 0 (by decide) tk rfl (pda_cons (pd_var (pv 3)) pda_nil)) (pda_cons (pd_var (pv 2)) pda_nil)))) pda_nil)))))
      (pdss_cons (pds_for (by exact PassesOwn.leaving) rfl (pdi_any rfl (pd_var (pv 4))) (pdg_name hnd rfl (by first | exact Or.inl rfl | exact Or.inr rfl))
      (pdss_one (pds_if (pdt_cmp (po_ne rfl hr.units) (pd_c C_law_tried_fn hr (by decide) 0 (by decide) tk rfl (pda_cons (pd_ix rfl (pd_var (pv 6)) pd_int (fun _ _ => rfl)) (pda_cons (pd_ix rfl (pd_var (pv 6)) pd_int (fun _ _ => rfl)) (pda_cons (pd_ix rfl (pd_var (pv 6)) pd_int (fun _ _ => rfl)) (pda_cons (pd_c C_law_draw_fn hr (by decide) 0 (by decide) tk rfl (pda_cons (pd_var (pv 3)) (pda_cons pd_int pda_nil))) pda_nil))))) (pd_tup (pda_cons (pd_str (by decide +kernel)) (pda_cons (pd_str (by decide +kernel)) pda_nil))) (nomark _))
      (pdss_one (pds_ret pd_bl))
      pdss_nil)))
      (pdss_one (pds_ret pd_bl))))))
abbrev nm_Name_eq__ : List Str := ["self", "other"]
theorem sc_Name_eq__ : FnScope nm_Name_eq__ ["self", "other"] (defScope st_Name_eq__) := ⟨rfl, rfl, rfl, by decide +kernel, rfl, by decide +kernel, by decide +kernel⟩
theorem ok_Name_eq__ {fd : FuncData} {dvs : List V} {kws : List (Str × V)} (T : Fx K mg) (C_Block_eq___mt : MetD false P w K mg base (S0 K) 1 "Block" "__eq__" 2 G_Block_eq__ dfl_Block_eq__) (F : FunD K "__eq__" "Name.__eq__" (defArgs st_Name_eq__) (defBody st_Name_eq__) (defScope st_Name_eq__) dvs kws (He.ma K (He.ga K "Name") "__eq__") fd) :
    FnOk P w K mg base (L2M.CX false P w) 3 (He.ma K (He.ga K "Name") "__eq__") fd ["self", "other"] (spD (S0 K) 2 G_Name_eq__) :=
  fnD_ok (S := S0 K) F sc_Name_eq__ fun n cdv A outer s H E hr =>
    have hnd := sc_Name_eq__.nd
    have tk : L2M.Takes false (cxOf (L2M.CX false P w) P w K mg base nm_Name_eq__ "Name.__eq__" (defScope st_Name_eq__) (He.ma K (He.ga K "Name") "__eq__") cdv A outer s H E) (fun cls d _ H => E cls d H) := L2M.takes_of rfl rfl rfl rfl
    (pdss_cons (pds_if (PDW.pt (pdw_or (pdt_not (pdt_tru rfl (pd_blt (pb_isi rfl (T.ins n) (T.k_Name n)) rfl T.f_isinstance (by decide +kernel) (pda_cons (pd_var (pv 1)) (pda_cons (pd_glo rfl T.g_Name) pda_nil))))) (pdw_or1 (pdt_ne rfl C_Block_eq___mt hr (by decide) tk (T.ins n) (T.nf_Block n) (T.ne_Block n) (pd_fld rfl (T.n_block n) (pd_var (pv 0))) (pd_fld rfl (T.n_block n) (pd_var (pv 1))) (nomark _)))))
      (pdss_one (pds_ret pd_bl))
      pdss_nil)
      (pdss_one (pds_ret (pd_cmp (po_eq rfl hr.units) (pd_tup (pda_cons (pd_fld rfl (T.n_rows n) (pd_var (pv 0))) (pda_cons (pd_fld rfl (T.n_columns n) (pd_var (pv 0))) pda_nil))) (pd_tup (pda_cons (pd_fld rfl (T.n_rows n) (pd_var (pv 1))) (pda_cons (pd_fld rfl (T.n_columns n) (pd_var (pv 1))) pda_nil))) (nomark _)))))
abbrev nm_is_cell : List Str := ["thing", "part"]
theorem sc_is_cell : FnScope nm_is_cell ["thing"] (defScope st_is_cell) := ⟨rfl, rfl, rfl, by decide +kernel, rfl, by decide +kernel, by decide +kernel⟩
theorem ok_is_cell {fd : FuncData} {dvs : List V} {kws : List (Str × V)} (T : Fx K mg) (C_is_count_fn : CalD false P w K mg base (S0 K) 2 "is_count" 1 G_is_count dfl_is_count) (F : FunD K "is_cell" "is_cell" (defArgs st_is_cell) (defBody st_is_cell) (defScope st_is_cell) dvs kws (He.ga K "is_cell") fd) :
    FnOk P w K mg base (L2M.CX false P w) 3 (He.ga K "is_cell") fd ["thing"] (spD (S0 K) 1 G_is_cell) :=
  fnD_ok (S := S0 K) F sc_is_cell fun n cdv A outer s H E hr =>
    have hnd := sc_is_cell.nd
    have tk : L2M.Takes false (cxOf (L2M.CX false P w) P w K mg base nm_is_cell "is_cell" (defScope st_is_cell) (He.ga K "is_cell") cdv A outer s H E) (fun cls d _ H => E cls d H) := L2M.takes_of rfl rfl rfl rfl
    (pdss_one (pds_ret (pd_and rfl (pd_blt (pb_isi rfl (T.ins n) (T.k_tuple n)) rfl T.f_isinstance (by decide +kernel) (pda_cons (pd_var (pv 0)) (pda_cons (pd_bvl rfl T.f_tuple (by decide +kernel)) pda_nil))) (pd_and rfl (pd_cmp (po_eq rfl hr.units) (pd_blt (pb_len rfl) rfl T.f_len (by decide +kernel) (pda_cons (pd_var (pv 0)) pda_nil)) pd_int (nomark _)) (pd_one (pd_blt (pb_all rfl rfl) rfl T.f_all (by decide +kernel) (pda_cons (pd_lc (own := [("part", 1)]) rfl (by exact hnd) (pdi_any rfl (pd_var (pv 0))) (blkOk_by (own := [("part", 1)]) (N := ["thing", "part"]) (sc := defScope st_is_cell) (by decide +kernel)) (by decide) (fun _ _ _ _ _ => (pdg_name hnd rfl (by first | exact Or.inl rfl | exact Or.inr rfl))) (fun _ _ _ _ _ => pdts_nil) (fun _ _ _ _ _ => (pd_c C_is_count_fn hr (by decide) 0 (by decide) takesNo rfl (pda_cons (pd_var (pv 1)) pda_nil)))) pda_nil)))))))
abbrev nm_checked_cell : List Str := ["thing"]
theorem sc_checked_cell : FnScope nm_checked_cell ["thing"] (defScope st_checked_cell) := ⟨rfl, rfl, rfl, by decide +kernel, rfl, by decide +kernel, by decide +kernel⟩
theorem ok_checked_cell {fd : FuncData} {dvs : List V} {kws : List (Str × V)} (T : Fx K mg) (C_is_cell_fn : CalD false P w K mg base (S0 K) 3 "is_cell" 1 G_is_cell dfl_is_cell) (F : FunD K "checked_cell" "checked_cell" (defArgs st_checked_cell) (defBody st_checked_cell) (defScope st_checked_cell) dvs kws (He.ga K "checked_cell") fd) :
    FnOk P w K mg base (L2M.CX false P w) 4 (He.ga K "checked_cell") fd ["thing"] (spD (S0 K) 1 G_checked_cell) :=
  fnD_ok (S := S0 K) F sc_checked_cell fun n cdv A outer s H E hr =>
    have hnd := sc_checked_cell.nd
    have tk : L2M.Takes false (cxOf (L2M.CX false P w) P w K mg base nm_checked_cell "checked_cell" (defScope st_checked_cell) (He.ga K "checked_cell") cdv A outer s H E) (fun cls d _ H => E cls d H) := L2M.takes_of rfl rfl rfl rfl
    (pdss_one (pds_if (pdt_not (pdt_tru rfl (pd_c C_is_cell_fn hr (by decide) 0 (by decide) tk rfl (pda_cons (pd_var (pv 0)) pda_nil))))
      (pdss_one (pds_raise rfl (T.x_NoCell n) rfl tk rfl T.g_NoCell))
      pdss_nil))
abbrev nm_checked_manner : List Str := ["manner", "base"]
theorem sc_checked_manner : FnScope nm_checked_manner ["manner", "base"] (defScope st_checked_manner) := ⟨rfl, rfl, rfl, by decide +kernel, rfl, by decide +kernel, by decide +kernel⟩
theorem ok_checked_manner {fd : FuncData} {dvs : List V} {kws : List (Str × V)} (T : Fx K mg) (C_checked_cell_fn : CalD false P w K mg base (S0 K) 4 "checked_cell" 1 G_checked_cell dfl_checked_cell) (F : FunD K "checked_manner" "checked_manner" (defArgs st_checked_manner) (defBody st_checked_manner) (defScope st_checked_manner) dvs kws (He.ga K "checked_manner") fd) :
    FnOk P w K mg base (L2M.CX false P w) 5 (He.ga K "checked_manner") fd ["manner", "base"] (spD (S0 K) 2 G_checked_manner) :=
  fnD_ok (S := S0 K) F sc_checked_manner fun n cdv A outer s H E hr =>
    have hnd := sc_checked_manner.nd
    have tk : L2M.Takes false (cxOf (L2M.CX false P w) P w K mg base nm_checked_manner "checked_manner" (defScope st_checked_manner) (He.ga K "checked_manner") cdv A outer s H E) (fun cls d _ H => E cls d H) := L2M.takes_of rfl rfl rfl rfl
    (pdss_cons (pds_if (pdt_cmp (po_notIn2 rfl hr) (pd_var (pv 0)) (pd_gtup rfl T.g_MANNERS (T.t_MANNERS n)) rfl)
      (pdss_one (pds_raise rfl (T.x_NoManner n) rfl tk rfl T.g_NoManner))
      pdss_nil)
      (pdss_cons (pds_if (pdt_cmp po_is (pd_var (pv 1)) pd_non (nomark _))
      (pdss_one (pds_set hnd rfl (by first | exact Or.inl rfl | exact Or.inr rfl) (pd_tup (pda_cons pd_int (pda_cons pd_int pda_nil)))))
      pdss_nil)
      (pdss_cons (pds_exp (pd_c C_checked_cell_fn hr (by decide) 0 (by decide) tk rfl (pda_cons (pd_var (pv 1)) pda_nil)))
      (pdss_one (pds_ret (pd_var (pv 1)))))))
abbrev nm_fast_text : List Str := ["text", "mark"]
theorem sc_fast_text : FnScope nm_fast_text ["text", "mark"] (defScope st_fast_text) := ⟨rfl, rfl, rfl, by decide +kernel, rfl, by decide +kernel, by decide +kernel⟩
theorem ok_fast_text {fd : FuncData} {dvs : List V} {kws : List (Str × V)} (T : Fx K mg)  (F : FunD K "fast_text" "fast_text" (defArgs st_fast_text) (defBody st_fast_text) (defScope st_fast_text) dvs kws (He.ga K "fast_text") fd) :
    FnOk P w K mg base (L2M.CX false P w) 1 (He.ga K "fast_text") fd ["text", "mark"] (spD (S0 K) 2 G_fast_text) :=
  fnD_ok (S := S0 K) F sc_fast_text fun n cdv A outer s H E hr =>
    have hnd := sc_fast_text.nd
    have tk : L2M.Takes false (cxOf (L2M.CX false P w) P w K mg base nm_fast_text "fast_text" (defScope st_fast_text) (He.ga K "fast_text") cdv A outer s H E) (fun cls d _ H => E cls d H) := L2M.takes_of rfl rfl rfl rfl
    (pdss_cons (pds_if (pdt_tru rfl (pd_var (pv 1)))
      (pdss_one (pds_ret (pd_op po_add (pd_str (by decide +kernel)) (pd_var (pv 0)))))
      pdss_nil)
      (pdss_one (pds_ret (pd_var (pv 0)))))
abbrev nm_row_text : List Str := ["number"]
theorem sc_row_text : FnScope nm_row_text ["number"] (defScope st_row_text) := ⟨rfl, rfl, rfl, by decide +kernel, rfl, by decide +kernel, by decide +kernel⟩
theorem ok_row_text {fd : FuncData} {dvs : List V} {kws : List (Str × V)} (T : Fx K mg)  (F : FunD K "row_text" "row_text" (defArgs st_row_text) (defBody st_row_text) (defScope st_row_text) dvs kws (He.ga K "row_text") fd) :
    FnOk P w K mg base (L2M.CX false P w) 1 (He.ga K "row_text") fd ["number"] (spD (S0 K) 1 G_row_text) :=
  fnD_ok (S := S0 K) F sc_row_text fun n cdv A outer s H E hr =>
    have hnd := sc_row_text.nd
    have tk : L2M.Takes false (cxOf (L2M.CX false P w) P w K mg base nm_row_text "row_text" (defScope st_row_text) (He.ga K "row_text") cdv A outer s H E) (fun cls d _ H => E cls d H) := L2M.takes_of rfl rfl rfl rfl
    (pdss_cons (pds_if (pdt_cmp po_is (pd_var (pv 0)) pd_non (nomark _))
      (pdss_one (pds_ret (pd_str (by decide +kernel))))
      pdss_nil)
      (pdss_one (pds_ret (pd_bty (pb_str2) rfl T.f_str (by decide +kernel) (pda_cons (pd_var (pv 0)) pda_nil)))))
abbrev nm_letters_of : List Str := ["number", "found", "rest"]
theorem sc_letters_of : FnScope nm_letters_of ["number"] (defScope st_letters_of) := ⟨rfl, rfl, rfl, by decide +kernel, rfl, by decide +kernel, by decide +kernel⟩
theorem ok_letters_of {fd : FuncData} {dvs : List V} {kws : List (Str × V)} (T : Fx K mg) (C_is_count_fn : CalD false P w K mg base (S0 K) 2 "is_count" 1 G_is_count dfl_is_count) (F : FunD K "letters_of" "letters_of" (defArgs st_letters_of) (defBody st_letters_of) (defScope st_letters_of) dvs kws (He.ga K "letters_of") fd) :
    FnOk P w K mg base (L2M.CX false P w) 3 (He.ga K "letters_of") fd ["number"] (spD (S0 K) 1 G_letters_of) :=
  fnD_ok (S := S0 K) F sc_letters_of fun n cdv A outer s H E hr =>
    have hnd := sc_letters_of.nd
    have tk : L2M.Takes false (cxOf (L2M.CX false P w) P w K mg base nm_letters_of "letters_of" (defScope st_letters_of) (He.ga K "letters_of") cdv A outer s H E) (fun cls d _ H => E cls d H) := L2M.takes_of rfl rfl rfl rfl
    (pdss_cons (pds_if (pdt_not (pdt_tru rfl (pd_c C_is_count_fn hr (by decide) 0 (by decide) tk rfl (pda_cons (pd_var (pv 0)) pda_nil))))
      (pdss_one (pds_raise rfl (T.x_NoColumn n) rfl tk rfl T.g_NoColumn))
      pdss_nil)
      (pdss_cons (pds_set hnd rfl (by first | exact Or.inl rfl | exact Or.inr rfl) (pd_str (by decide +kernel)))
      (pdss_cons (pds_while (by exact PassesOwn.leaving) (pdt_cmp po_gt (pd_var (pv 0)) pd_int (nomark _))
      (pdss_cons (pds_asg (pd_blt (pb_divmod) rfl T.f_divmod (by decide +kernel) (pda_cons (pd_op po_sub (pd_var (pv 0)) pd_int) (pda_cons pd_int pda_nil))) (pdg_tup rfl rfl (pdgs_cons (pdg_name hnd rfl (by first | exact Or.inl rfl | exact Or.inr rfl)) (pdgs_cons (pdg_name hnd rfl (by first | exact Or.inl rfl | exact Or.inr rfl)) pdgs_nil))))
      (pdss_one (pds_set hnd rfl (by first | exact Or.inl rfl | exact Or.inr rfl) (pd_op po_add (pd_ix rfl (pd_gstrE rfl T.c_LETTERS) (pd_var (pv 2)) (fun _ _ => rfl)) (pd_var (pv 1)))))))
      (pdss_one (pds_ret (pd_var (pv 1)))))))
abbrev nm_column_text : List Str := ["number"]
theorem sc_column_text : FnScope nm_column_text ["number"] (defScope st_column_text) := ⟨rfl, rfl, rfl, by decide +kernel, rfl, by decide +kernel, by decide +kernel⟩
theorem ok_column_text {fd : FuncData} {dvs : List V} {kws : List (Str × V)} (T : Fx K mg) (C_letters_of_fn : CalD false P w K mg base (S0 K) 3 "letters_of" 1 G_letters_of dfl_letters_of) (F : FunD K "column_text" "column_text" (defArgs st_column_text) (defBody st_column_text) (defScope st_column_text) dvs kws (He.ga K "column_text") fd) :
    FnOk P w K mg base (L2M.CX false P w) 4 (He.ga K "column_text") fd ["number"] (spD (S0 K) 1 G_column_text) :=
  fnD_ok (S := S0 K) F sc_column_text fun n cdv A outer s H E hr =>
    have hnd := sc_column_text.nd
    have tk : L2M.Takes false (cxOf (L2M.CX false P w) P w K mg base nm_column_text "column_text" (defScope st_column_text) (He.ga K "column_text") cdv A outer s H E) (fun cls d _ H => E cls d H) := L2M.takes_of rfl rfl rfl rfl
    (pdss_cons (pds_if (pdt_cmp po_is (pd_var (pv 0)) pd_non (nomark _))
      (pdss_one (pds_ret (pd_str (by decide +kernel))))
      pdss_nil)
      (pdss_one (pds_ret (pd_c C_letters_of_fn hr (by decide) 0 (by decide) tk rfl (pda_cons (pd_var (pv 0)) pda_nil)))))
abbrev nm_numbers_beside : List Str := ["row", "column"]
theorem sc_numbers_beside : FnScope nm_numbers_beside ["row", "column"] (defScope st_numbers_beside) := ⟨rfl, rfl, rfl, by decide +kernel, rfl, by decide +kernel, by decide +kernel⟩
theorem ok_numbers_beside {fd : FuncData} {dvs : List V} {kws : List (Str × V)} (T : Fx K mg)  (F : FunD K "numbers_beside" "numbers_beside" (defArgs st_numbers_beside) (defBody st_numbers_beside) (defScope st_numbers_beside) dvs kws (He.ga K "numbers_beside") fd) :
    FnOk P w K mg base (L2M.CX false P w) 1 (He.ga K "numbers_beside") fd ["row", "column"] (spD (S0 K) 2 G_numbers_beside) :=
  fnD_ok (S := S0 K) F sc_numbers_beside fun n cdv A outer s H E hr =>
    have hnd := sc_numbers_beside.nd
    have tk : L2M.Takes false (cxOf (L2M.CX false P w) P w K mg base nm_numbers_beside "numbers_beside" (defScope st_numbers_beside) (He.ga K "numbers_beside") cdv A outer s H E) (fun cls d _ H => E cls d H) := L2M.takes_of rfl rfl rfl rfl
    (pdss_one (pds_ret (pd_op po_add (pd_var (pv 0)) (pd_var (pv 1)))))
abbrev nm_letters_ahead : List Str := ["row", "column"]
theorem sc_letters_ahead : FnScope nm_letters_ahead ["row", "column"] (defScope st_letters_ahead) := ⟨rfl, rfl, rfl, by decide +kernel, rfl, by decide +kernel, by decide +kernel⟩
theorem ok_letters_ahead {fd : FuncData} {dvs : List V} {kws : List (Str × V)} (T : Fx K mg)  (F : FunD K "letters_ahead" "letters_ahead" (defArgs st_letters_ahead) (defBody st_letters_ahead) (defScope st_letters_ahead) dvs kws (He.ga K "letters_ahead") fd) :
    FnOk P w K mg base (L2M.CX false P w) 1 (He.ga K "letters_ahead") fd ["row", "column"] (spD (S0 K) 2 G_letters_ahead) :=
  fnD_ok (S := S0 K) F sc_letters_ahead fun n cdv A outer s H E hr =>
    have hnd := sc_letters_ahead.nd
    have tk : L2M.Takes false (cxOf (L2M.CX false P w) P w K mg base nm_letters_ahead "letters_ahead" (defScope st_letters_ahead) (He.ga K "letters_ahead") cdv A outer s H E) (fun cls d _ H => E cls d H) := L2M.takes_of rfl rfl rfl rfl
    (pdss_one (pds_ret (pd_op po_add (pd_var (pv 1)) (pd_var (pv 0)))))
abbrev nm_by_ends : List Str := ["block", "rows", "columns", "together", "first"]
theorem sc_by_ends : FnScope nm_by_ends ["block", "rows", "columns", "together"] (defScope st_by_ends) := ⟨rfl, rfl, rfl, by decide +kernel, rfl, by decide +kernel, by decide +kernel⟩
theorem ok_by_ends {fd : FuncData} {dvs : List V} {kws : List (Str × V)} (T : Fx K mg) (C_is_rows_fn : CalD false P w K mg base (S0 K) 1 "is_rows" 1 G_is_rows dfl_is_rows) (C_is_columns_fn : CalD false P w K mg base (S0 K) 1 "is_columns" 1 G_is_columns dfl_is_columns) (C_numbers_beside_fn : CalD false P w K mg base (S0 K) 1 "numbers_beside" 2 G_numbers_beside dfl_numbers_beside) (C_letters_ahead_fn : CalD false P w K mg base (S0 K) 1 "letters_ahead" 2 G_letters_ahead dfl_letters_ahead) (C_Block_size_mt : MetD false P w K mg base (S0 K) 1 "Block" "size" 1 G_Block_size dfl_Block_size) (F : FunD K "by_ends" "by_ends" (defArgs st_by_ends) (defBody st_by_ends) (defScope st_by_ends) dvs kws (He.ga K "by_ends") fd) :
    FnOk P w K mg base (L2M.CX false P w) 2 (He.ga K "by_ends") fd ["block", "rows", "columns", "together"] (spD (S0 K) 4 G_by_ends_k22) :=
  fnD_ok (S := S0 K) F sc_by_ends fun n cdv A outer s H E hr =>
    have hnd := sc_by_ends.nd
    have tk : L2M.Takes false (cxOf (L2M.CX false P w) P w K mg base nm_by_ends "by_ends" (defScope st_by_ends) (He.ga K "by_ends") cdv A outer s H E) (fun cls d _ H => E cls d H) := L2M.takes_of rfl rfl rfl rfl
    (pdss_cons (pds_if (pdt_tru rfl (pd_c C_is_rows_fn hr (by decide) 0 (by decide) tk rfl (pda_cons (pd_var (pv 0)) pda_nil)))
      (pdss_one (pds_ret (pd_op po_add (pd_op po_add (pd_ix rfl (pd_var (pv 1)) pd_int (fun _ _ => rfl)) (pd_str (by decide +kernel))) (pd_ix rfl (pd_var (pv 1)) pd_int (fun _ _ => rfl)))))
      pdss_nil)
      (pdss_cons (pds_if (pdt_tru rfl (pd_c C_is_columns_fn hr (by decide) 0 (by decide) tk rfl (pda_cons (pd_var (pv 0)) pda_nil)))
      (pdss_one (pds_ret (pd_op po_add (pd_op po_add (pd_ix rfl (pd_var (pv 2)) pd_int (fun _ _ => rfl)) (pd_str (by decide +kernel))) (pd_ix rfl (pd_var (pv 2)) pd_int (fun _ _ => rfl)))))
      pdss_nil)
      (pdss_cons (pds_set hnd rfl (by first | exact Or.inl rfl | exact Or.inr rfl) (pd_ca_cons (i := 3) rfl T.g_letters_ahead C_letters_ahead_fn hr (by decide) tk rfl (by first | exact .inl rfl | exact .inr (.inl rfl) | exact .inr (.inr rfl)) (pda_cons (pd_ix rfl (pd_var (pv 1)) pd_int (fun _ _ => rfl)) (pda_cons (pd_ix rfl (pd_var (pv 2)) pd_int (fun _ _ => rfl)) pda_nil)) (pd_ca_cons (i := 3) rfl T.g_numbers_beside C_numbers_beside_fn hr (by decide) tk rfl (by first | exact .inl rfl | exact .inr (.inl rfl) | exact .inr (.inr rfl)) (pda_cons (pd_ix rfl (pd_var (pv 1)) pd_int (fun _ _ => rfl)) (pda_cons (pd_ix rfl (pd_var (pv 2)) pd_int (fun _ _ => rfl)) pda_nil)) pd_ca_nil)))
      (pdss_cons (pds_if (pdt_cmp (po_eq rfl hr.units) (pd_m0 rfl C_Block_size_mt hr (by decide) 0 (by decide) tk (pd_var (pv 0))) pd_int (nomark _))
      (pdss_one (pds_ret (pd_var (pv 4))))
      pdss_nil)
      (pdss_one (pds_ret (pd_op po_add (pd_op po_add (pd_var (pv 4)) (pd_str (by decide +kernel))) (pd_ca_cons (i := 3) rfl T.g_letters_ahead C_letters_ahead_fn hr (by decide) tk rfl (by first | exact .inl rfl | exact .inr (.inl rfl) | exact .inr (.inr rfl)) (pda_cons (pd_ix rfl (pd_var (pv 1)) pd_int (fun _ _ => rfl)) (pda_cons (pd_ix rfl (pd_var (pv 2)) pd_int (fun _ _ => rfl)) pda_nil)) (pd_ca_cons (i := 3) rfl T.g_numbers_beside C_numbers_beside_fn hr (by decide) tk rfl (by first | exact .inl rfl | exact .inr (.inl rfl) | exact .inr (.inr rfl)) (pda_cons (pd_ix rfl (pd_var (pv 1)) pd_int (fun _ _ => rfl)) (pda_cons (pd_ix rfl (pd_var (pv 2)) pd_int (fun _ _ => rfl)) pda_nil)) pd_ca_nil)))))))))
abbrev nm_far_text : List Str := ["letter", "end", "mark", "here"]
theorem sc_far_text : FnScope nm_far_text ["letter", "end", "mark", "here"] (defScope st_far_text) := ⟨rfl, rfl, rfl, by decide +kernel, rfl, by decide +kernel, by decide +kernel⟩
theorem ok_far_text {fd : FuncData} {dvs : List V} {kws : List (Str × V)} (T : Fx K mg)  (F : FunD K "far_text" "far_text" (defArgs st_far_text) (defBody st_far_text) (defScope st_far_text) dvs kws (He.ga K "far_text") fd) :
    FnOk P w K mg base (L2M.CX false P w) 1 (He.ga K "far_text") fd ["letter", "end", "mark", "here"] (spD (S0 K) 4 G_far_text) :=
  fnD_ok (S := S0 K) F sc_far_text fun n cdv A outer s H E hr =>
    have hnd := sc_far_text.nd
    have tk : L2M.Takes false (cxOf (L2M.CX false P w) P w K mg base nm_far_text "far_text" (defScope st_far_text) (He.ga K "far_text") cdv A outer s H E) (fun cls d _ H => E cls d H) := L2M.takes_of rfl rfl rfl rfl
    (pdss_cons (pds_if (pdt_cmp po_is (pd_var (pv 1)) pd_non (nomark _))
      (pdss_one (pds_ret (pd_str (by decide +kernel))))
      pdss_nil)
      (pdss_cons (pds_if (pdt_tru rfl (pd_var (pv 2)))
      (pdss_one (pds_ret (pd_op po_add (pd_var (pv 0)) (pd_bty (pb_str2) rfl T.f_str (by decide +kernel) (pda_cons (pd_var (pv 1)) pda_nil)))))
      pdss_nil)
      (pdss_cons (pds_if (pdt_cmp (po_eq rfl hr.units) (pd_var (pv 1)) (pd_var (pv 3)) (nomark _))
      (pdss_one (pds_ret (pd_var (pv 0))))
      pdss_nil)
      (pdss_one (pds_ret (pd_op po_add (pd_op po_add (pd_op po_add (pd_var (pv 0)) (pd_str (by decide +kernel))) (pd_bty (pb_str2) rfl T.f_str (by decide +kernel) (pda_cons (pd_op po_sub (pd_var (pv 1)) (pd_var (pv 3))) pda_nil))) (pd_str (by decide +kernel))))))))
abbrev nm_Name_shown : List Str := ["self", "manner", "base", "here", "up", "side", "rows", "end", "mark", "columns"]
theorem sc_Name_shown : FnScope nm_Name_shown ["self", "manner", "base"] (defScope st_Name_shown) := ⟨rfl, rfl, rfl, by decide +kernel, rfl, by decide +kernel, by decide +kernel⟩
theorem ok_Name_shown {fd : FuncData} {dvs : List V} {kws : List (Str × V)} (T : Fx K mg) (C_checked_manner_fn : CalD false P w K mg base (S0 K) 5 "checked_manner" 2 G_checked_manner dfl_checked_manner) (C_fast_text_fn : CalD false P w K mg base (S0 K) 1 "fast_text" 2 G_fast_text dfl_fast_text) (C_row_text_fn : CalD false P w K mg base (S0 K) 1 "row_text" 1 G_row_text dfl_row_text) (C_column_text_fn : CalD false P w K mg base (S0 K) 4 "column_text" 1 G_column_text dfl_column_text) (C_by_ends_fn : CalD false P w K mg base (S0 K) 2 "by_ends" 4 G_by_ends_k22 dfl_by_ends_k22) (C_far_text_fn : CalD false P w K mg base (S0 K) 1 "far_text" 4 G_far_text dfl_far_text) (F : FunD K "shown" "Name.shown" (defArgs st_Name_shown) (defBody st_Name_shown) (defScope st_Name_shown) dvs kws (He.ma K (He.ga K "Name") "shown") fd) :
    FnOk P w K mg base (L2M.CX false P w) 6 (He.ma K (He.ga K "Name") "shown") fd ["self", "manner", "base"] (spD (S0 K) 3 G_Name_shown) :=
  fnD_ok (S := S0 K) F sc_Name_shown fun n cdv A outer s H E hr =>
    have hnd := sc_Name_shown.nd
    have tk : L2M.Takes false (cxOf (L2M.CX false P w) P w K mg base nm_Name_shown "Name.shown" (defScope st_Name_shown) (He.ma K (He.ga K "Name") "shown") cdv A outer s H E) (fun cls d _ H => E cls d H) := L2M.takes_of rfl rfl rfl rfl
    (pdss_cons (pds_set hnd rfl (by first | exact Or.inl rfl | exact Or.inr rfl) (pd_c C_checked_manner_fn hr (by decide) 0 (by decide) tk rfl (pda_cons (pd_var (pv 1)) (pda_cons (pd_var (pv 2)) pda_nil))))
      (pdss_cons (pds_set hnd rfl (by first | exact Or.inl rfl | exact Or.inr rfl) (pd_lst (pda_cons (pd_tup (pda_cons (pd_fld rfl (T.n_top n) (pd_fld rfl (T.n_block n) (pd_var (pv 0)))) (pda_cons (pd_ix rfl (pd_fld rfl (T.n_rows n) (pd_var (pv 0))) pd_int (fun _ _ => rfl)) pda_nil))) (pda_cons (pd_tup (pda_cons (pd_fld rfl (T.n_bottom n) (pd_fld rfl (T.n_block n) (pd_var (pv 0)))) (pda_cons (pd_ix rfl (pd_fld rfl (T.n_rows n) (pd_var (pv 0))) pd_int (fun _ _ => rfl)) pda_nil))) pda_nil))))
      (pdss_cons (pds_set hnd rfl (by first | exact Or.inl rfl | exact Or.inr rfl) (pd_lst (pda_cons (pd_tup (pda_cons (pd_fld rfl (T.n_left n) (pd_fld rfl (T.n_block n) (pd_var (pv 0)))) (pda_cons (pd_ix rfl (pd_fld rfl (T.n_columns n) (pd_var (pv 0))) pd_int (fun _ _ => rfl)) pda_nil))) (pda_cons (pd_tup (pda_cons (pd_fld rfl (T.n_right n) (pd_fld rfl (T.n_block n) (pd_var (pv 0)))) (pda_cons (pd_ix rfl (pd_fld rfl (T.n_columns n) (pd_var (pv 0))) pd_int (fun _ _ => rfl)) pda_nil))) pda_nil))))
      (pdss_cons (pds_if (pdt_cmp (po_eq rfl hr.units) (pd_var (pv 1)) (pd_str (by decide +kernel)) (nomark _))
      (pdss_cons (pds_setLc (own := [("end", 7), ("mark", 8)]) rfl hnd rfl rfl (sw_true rfl rfl rfl (by decide +kernel)) (pdi_any rfl (pd_var (pv 4))) (blkOk_by (own := [("end", 7), ("mark", 8)]) (N := ["self", "manner", "base", "here", "up", "side", "rows", "end", "mark", "columns"]) (sc := defScope st_Name_shown) (by decide +kernel)) (by decide) (fun _ _ _ _ _ => (pdg_tup rfl rfl (pdgs_cons (pdg_name hnd rfl (by first | exact Or.inl rfl | exact Or.inr rfl)) (pdgs_cons (pdg_name hnd rfl (by first | exact Or.inl rfl | exact Or.inr rfl)) pdgs_nil)))) (fun _ _ _ _ _ => pdts_nil) (fun _ _ _ _ _ => (pd_c C_fast_text_fn hr (by decide) 0 (by decide) takesNo rfl (pda_cons (pd_c C_row_text_fn hr (by decide) 0 (by decide) takesNo rfl (pda_cons (pd_var (pv 7)) pda_nil)) (pda_cons (pd_var (pv 8)) pda_nil)))))
      (pdss_cons (pds_setLc (own := [("end", 7), ("mark", 8)]) rfl hnd rfl rfl (sw_true rfl rfl rfl (by decide +kernel)) (pdi_any rfl (pd_var (pv 5))) (blkOk_by (own := [("end", 7), ("mark", 8)]) (N := ["self", "manner", "base", "here", "up", "side", "rows", "end", "mark", "columns"]) (sc := defScope st_Name_shown) (by decide +kernel)) (by decide) (fun _ _ _ _ _ => (pdg_tup rfl rfl (pdgs_cons (pdg_name hnd rfl (by first | exact Or.inl rfl | exact Or.inr rfl)) (pdgs_cons (pdg_name hnd rfl (by first | exact Or.inl rfl | exact Or.inr rfl)) pdgs_nil)))) (fun _ _ _ _ _ => pdts_nil) (fun _ _ _ _ _ => (pd_c C_fast_text_fn hr (by decide) 0 (by decide) takesNo rfl (pda_cons (pd_c C_column_text_fn hr (by decide) 0 (by decide) takesNo rfl (pda_cons (pd_var (pv 7)) pda_nil)) (pda_cons (pd_var (pv 8)) pda_nil)))))
      (pdss_one (pds_ret (pd_c C_by_ends_fn hr (by decide) 0 (by decide) tk rfl (pda_cons (pd_fld rfl (T.n_block n) (pd_var (pv 0))) (pda_cons (pd_var (pv 6)) (pda_cons (pd_var (pv 9)) (pda_cons (pd_glo rfl T.g_letters_ahead) pda_nil)))))))))
      pdss_nil)
      (pdss_cons (pds_setLc (own := [("end", 7), ("mark", 8)]) rfl hnd rfl rfl (sw_true rfl rfl rfl (by decide +kernel)) (pdi_any rfl (pd_var (pv 4))) (blkOk_by (own := [("end", 7), ("mark", 8)]) (N := ["self", "manner", "base", "here", "up", "side", "rows", "end", "mark", "columns"]) (sc := defScope st_Name_shown) (by decide +kernel)) (by decide) (fun _ _ _ _ _ => (pdg_tup rfl rfl (pdgs_cons (pdg_name hnd rfl (by first | exact Or.inl rfl | exact Or.inr rfl)) (pdgs_cons (pdg_name hnd rfl (by first | exact Or.inl rfl | exact Or.inr rfl)) pdgs_nil)))) (fun _ _ _ _ _ => pdts_nil) (fun _ _ _ _ _ => (pd_c C_far_text_fn hr (by decide) 0 (by decide) takesNo rfl (pda_cons (pd_str (by decide +kernel)) (pda_cons (pd_var (pv 7)) (pda_cons (pd_var (pv 8)) (pda_cons (pd_ix rfl (pd_var (pv 3)) pd_int (fun _ _ => rfl)) pda_nil)))))))
      (pdss_cons (pds_setLc (own := [("end", 7), ("mark", 8)]) rfl hnd rfl rfl (sw_true rfl rfl rfl (by decide +kernel)) (pdi_any rfl (pd_var (pv 5))) (blkOk_by (own := [("end", 7), ("mark", 8)]) (N := ["self", "manner", "base", "here", "up", "side", "rows", "end", "mark", "columns"]) (sc := defScope st_Name_shown) (by decide +kernel)) (by decide) (fun _ _ _ _ _ => (pdg_tup rfl rfl (pdgs_cons (pdg_name hnd rfl (by first | exact Or.inl rfl | exact Or.inr rfl)) (pdgs_cons (pdg_name hnd rfl (by first | exact Or.inl rfl | exact Or.inr rfl)) pdgs_nil)))) (fun _ _ _ _ _ => pdts_nil) (fun _ _ _ _ _ => (pd_c C_far_text_fn hr (by decide) 0 (by decide) takesNo rfl (pda_cons (pd_str (by decide +kernel)) (pda_cons (pd_var (pv 7)) (pda_cons (pd_var (pv 8)) (pda_cons (pd_ix rfl (pd_var (pv 3)) pd_int (fun _ _ => rfl)) pda_nil)))))))
      (pdss_one (pds_ret (pd_c C_by_ends_fn hr (by decide) 0 (by decide) tk rfl (pda_cons (pd_fld rfl (T.n_block n) (pd_var (pv 0))) (pda_cons (pd_var (pv 6)) (pda_cons (pd_var (pv 9)) (pda_cons (pd_glo rfl T.g_numbers_beside) pda_nil)))))))))))))
abbrev nm_Name_str__ : List Str := ["self"]
theorem sc_Name_str__ : FnScope nm_Name_str__ ["self"] (defScope st_Name_str__) := ⟨rfl, rfl, rfl, by decide +kernel, rfl, by decide +kernel, by decide +kernel⟩
theorem ok_Name_str__ {fd : FuncData} {dvs : List V} {kws : List (Str × V)} (T : Fx K mg) (C_Name_shown_mt : MetD false P w K mg base (S0 K) 6 "Name" "shown" 3 G_Name_shown dfl_Name_shown) (F : FunD K "__str__" "Name.__str__" (defArgs st_Name_str__) (defBody st_Name_str__) (defScope st_Name_str__) dvs kws (He.ma K (He.ga K "Name") "__str__") fd) :
    FnOk P w K mg base (L2M.CX false P w) 7 (He.ma K (He.ga K "Name") "__str__") fd ["self"] (spD (S0 K) 1 G_Name_str__) :=
  fnD_ok (S := S0 K) F sc_Name_str__ fun n cdv A outer s H E hr =>
    have hnd := sc_Name_str__.nd
    have tk : L2M.Takes false (cxOf (L2M.CX false P w) P w K mg base nm_Name_str__ "Name.__str__" (defScope st_Name_str__) (He.ma K (He.ga K "Name") "__str__") cdv A outer s H E) (fun cls d _ H => E cls d H) := L2M.takes_of rfl rfl rfl rfl
    (pdss_one (pds_ret (pd_bty (pb_str2) rfl T.f_str (by decide +kernel) (pda_cons (pd_m0 rfl C_Name_shown_mt hr (by decide) 0 (by decide) tk (pd_var (pv 0))) pda_nil))))
abbrev nm_law : List Str := ["_law_script", "_law_made", "_law_cell", "_law_well_here", "_law_four", "_law_ups", "_law_sides", "_law_patch", "_law_name", "_law_plain", "_law_one", "_law_other", "_law_thing", "_law_due", "_law_more"]
theorem sc_law : FnScope nm_law ["_law_script"] (defScope st_law) := ⟨rfl, rfl, rfl, by decide +kernel, rfl, by decide +kernel, by decide +kernel⟩
theorem ok_law {fd : FuncData} {dvs : List V} {kws : List (Str × V)} (T : Fx K mg) (C_law_well_nw : CalN false P w K mg base (S0 K) 1 "_law_well" 1 G_law_well dfl_law_well) (C_law_block_fn : CalD false P w K mg base (S0 K) 3 "_law_block" 1 G_law_block dfl_law_block) (C_law_marks_fn : CalD false P w K mg base (S0 K) 2 "_law_marks" 2 G_law_marks dfl_law_marks) (C_Block_init___mk : MakD false P w K mg base (S0 K) 4 "Block" 5 G_Block_init__ dfl_Block_init__) (C_law_all_ways_fn : CalD false P w K mg base (S0 K) 6 "_law_all_ways" 3 G_law_all_ways dfl_law_all_ways) (C_law_others_refused_fn : CalD false P w K mg base (S0 K) 5 "_law_others_refused" 4 G_law_others_refused dfl_law_others_refused) (C_Name_init___mk : MakD false P w K mg base (S0 K) 2 "Name" 4 G_Name_init__ dfl_Name_init__) (C_Name_init___mkK0_columns_block : MakK false P w K mg base (S0 K) 2 "Name" 4 G_Name_init__ 0 ["columns", "block"] [1, 2, 0] dfl_Name_init__) (C_Block_eq___mt : MetD false P w K mg base (S0 K) 1 "Block" "__eq__" 2 G_Block_eq__ dfl_Block_eq__) (C_Name_init___mkK1_columns_rows : MakK false P w K mg base (S0 K) 2 "Name" 4 G_Name_init__ 1 ["columns", "rows"] [0, 2, 1] dfl_Name_init__) (C_Name_eq___mt : MetD false P w K mg base (S0 K) 3 "Name" "__eq__" 2 G_Name_eq__ dfl_Name_eq__) (C_Name_str___mt : MetD false P w K mg base (S0 K) 7 "Name" "__str__" 1 G_Name_str__ dfl_Name_str__) (F : FunD K "law" "law" (defArgs st_law) (defBody st_law) (defScope st_law) dvs kws (He.ga K "law") fd) :
    FnOk P w K mg base (L2M.CX false P w) 10 (He.ga K "law") fd ["_law_script"] (spD (S0 K) 1 G_law_k21) :=
  fnD_ok (S := S0 K) F sc_law fun n cdv A outer s H E hr =>
    have hnd := sc_law.nd
    have tk : L2M.Takes false (cxOf (L2M.CX false P w) P w K mg base nm_law "law" (defScope st_law) (He.ga K "law") cdv A outer s H E) (fun cls d _ H => E cls d H) := L2M.takes_of rfl rfl rfl rfl
    (pdss_cons (pds_cel hnd rfl (by first | exact Or.inl rfl | exact Or.inr rfl) pda_nil)
      (pdss_cons (pds_for (by exact PassesOwn.leaving) rfl (pdi_any rfl (pd_op po_add (pd_slc rfl (pd_var (pv 0)) pdp_none (pdp_some pd_int)) (pd_lst (pda_cons pd_int (pda_cons pd_int (pda_cons pd_int pda_nil)))))) (pdg_name hnd rfl (by first | exact Or.inl rfl | exact Or.inr rfl))
      (pdss_cons (pds_newL hnd rfl (by first | exact Or.inl rfl | exact Or.inr rfl) (pdl_c C_law_well_nw hr (by decide) 0 (by decide) tk rfl (pda_cons (pd_var (pv 2)) pda_nil)))
      (pdss_cons (pds_set hnd rfl (by first | exact Or.inl rfl | exact Or.inr rfl) (pd_c C_law_block_fn hr (by decide) 0 (by decide) tk rfl (pda_cons (pd_var (pv 3)) pda_nil)))
      (pdss_cons (pds_asg (pd_c C_law_marks_fn hr (by decide) 0 (by decide) tk rfl (pda_cons (pd_var (pv 3)) (pda_cons (pd_var (pv 4)) pda_nil))) (pdg_tup rfl rfl (pdgs_cons (pdg_name hnd rfl (by first | exact Or.inl rfl | exact Or.inr rfl)) (pdgs_cons (pdg_name hnd rfl (by first | exact Or.inl rfl | exact Or.inr rfl)) pdgs_nil))))
      (pdss_cons (pds_set hnd rfl (by first | exact Or.inl rfl | exact Or.inr rfl) (pd_mk rfl C_Block_init___mk hr (by decide) 4 (by decide) tk rfl (pda_cons (pd_ix rfl (pd_var (pv 4)) pd_int (fun _ _ => rfl)) (pda_cons (pd_ix rfl (pd_var (pv 4)) pd_int (fun _ _ => rfl)) (pda_cons (pd_ix rfl (pd_var (pv 4)) pd_int (fun _ _ => rfl)) (pda_cons (pd_ix rfl (pd_var (pv 4)) pd_int (fun _ _ => rfl)) pda_nil))))))
      (pdss_cons (pds_if (PDW.pt (pdw_or (pdt_not (pdt_tru rfl (pd_c C_law_all_ways_fn hr (by decide) 0 (by decide) tk rfl (pda_cons (pd_var (pv 4)) (pda_cons (pd_var (pv 7)) (pda_cons (pd_var (pv 3)) pda_nil)))))) (pdw_or1 (pdt_not (pdt_tru rfl (pd_c C_law_others_refused_fn hr (by decide) 0 (by decide) tk rfl (pda_cons (pd_var (pv 7)) (pda_cons (pd_var (pv 5)) (pda_cons (pd_var (pv 6)) (pda_cons (pd_var (pv 3)) pda_nil))))))))))
      (pdss_one (pds_ret pd_bl))
      pdss_nil)
      (pdss_cons (pds_set hnd rfl (by first | exact Or.inl rfl | exact Or.inr rfl) (pd_mk rfl C_Name_init___mk hr (by decide) 2 (by decide) tk rfl (pda_cons (pd_var (pv 7)) (pda_cons (pd_var (pv 5)) (pda_cons (pd_var (pv 6)) pda_nil)))))
      (pdss_cons (pds_set hnd rfl (by first | exact Or.inl rfl | exact Or.inr rfl) (pd_mk rfl C_Name_init___mk hr (by decide) 0 (by decide) tk rfl (pda_cons (pd_var (pv 7)) pda_nil)))
      (pdss_cons (pds_for (by exact PassesOwn.leaving) rfl (pdi_any rfl (pd_lst (pda_cons (pd_var (pv 9)) (pda_cons (pd_mk rfl C_Name_init___mk hr (by decide) 2 (by decide) tk rfl (pda_cons (pd_var (pv 7)) (pda_cons pd_non (pda_cons pd_non pda_nil)))) (pda_cons (pd_mkk0 rfl C_Name_init___mkK0_columns_block hr (by decide) tk rfl (pdk_cons pd_non (pdk_cons (pd_var (pv 7)) pdk_nil))) pda_nil))))) (pdg_name hnd rfl (by first | exact Or.inl rfl | exact Or.inr rfl))
      (pdss_one (pds_if (PDW.pt (pdw_or (pdt_cmp (po_ne rfl hr.units) (pd_tup (pda_cons (pd_fld rfl (T.n_rows n) (pd_var (pv 10))) (pda_cons (pd_fld rfl (T.n_columns n) (pd_var (pv 10))) pda_nil))) (pd_tup (pda_cons (pd_tup (pda_cons pd_bl (pda_cons pd_bl pda_nil))) (pda_cons (pd_tup (pda_cons pd_bl (pda_cons pd_bl pda_nil))) pda_nil))) (nomark _)) (pdw_or1 (pdt_not (pdt_own rfl C_Block_eq___mt hr (by decide) tk (T.ins n) (T.nf_Block n) (pd_fld rfl (T.n_block n) (pd_var (pv 10))) (pd_var (pv 7)) (nomark _))))))
      (pdss_one (pds_ret pd_bl))
      pdss_nil)))
      (pdss_cons (pds_set hnd rfl (by first | exact Or.inl rfl | exact Or.inr rfl) (pd_mkk rfl C_Name_init___mkK1_columns_rows hr (by decide) tk rfl (pda_cons (pd_mk rfl C_Block_init___mk hr (by decide) 4 (by decide) tk rfl (pda_cons (pd_ix rfl (pd_var (pv 4)) pd_int (fun _ _ => rfl)) (pda_cons (pd_ix rfl (pd_var (pv 4)) pd_int (fun _ _ => rfl)) (pda_cons (pd_ix rfl (pd_var (pv 4)) pd_int (fun _ _ => rfl)) (pda_cons (pd_ix rfl (pd_var (pv 4)) pd_int (fun _ _ => rfl)) pda_nil))))) pda_nil) (pdk_cons (pd_var (pv 6)) (pdk_cons (pd_var (pv 5)) pdk_nil))))
      (pdss_cons (pds_if (PDW.pt (pdw_or (pdt_not (pdt_own rfl C_Name_eq___mt hr (by decide) tk (T.ins n) (T.nf_Name n) (pd_var (pv 8)) (pd_var (pv 11)) (nomark _))) (pdw_or (pdt_ne rfl C_Name_eq___mt hr (by decide) tk (T.ins n) (T.nf_Name n) (T.ne_Name n) (pd_var (pv 8)) (pd_var (pv 11)) (nomark _)) (pdw_or1 (pdt_cmp (po_ne rfl hr.units) (pd_own rfl C_Name_eq___mt hr (by decide) tk (T.ins n) (T.nf_Name n) (pd_var (pv 8)) (pd_var (pv 9)) (nomark _)) (pd_cmp (po_notIn rfl) pd_bl (pd_op (po_addT rfl) (pd_var (pv 5)) (pd_var (pv 6))) rfl) (nomark _))))))
      (pdss_one (pds_ret pd_bl))
      pdss_nil)
      (pdss_cons (pds_for (by exact PassesOwn.leaving) rfl (pdi_any rfl (pd_lst (pda_cons (pd_var (pv 7)) (pda_cons (pd_strO rfl C_Name_str___mt hr (by decide) tk rfl T.f_str (pd_var (pv 8))) (pda_cons pd_non (pda_cons (pd_tup (pda_cons (pd_var (pv 7)) (pda_cons (pd_var (pv 5)) (pda_cons (pd_var (pv 6)) pda_nil)))) (pda_cons pd_bl (pda_cons pd_dct0 pda_nil)))))))) (pdg_name hnd rfl (by first | exact Or.inl rfl | exact Or.inr rfl))
      (pdss_one (pds_if (PDW.pt (pdw_or (pdt_own rfl C_Name_eq___mt hr (by decide) tk (T.ins n) (T.nf_Name n) (pd_var (pv 8)) (pd_var (pv 12)) (nomark _)) (pdw_or1 (pdt_not (pdt_ne rfl C_Name_eq___mt hr (by decide) tk (T.ins n) (T.nf_Name n) (T.ne_Name n) (pd_var (pv 8)) (pd_var (pv 12)) (nomark _))))))
      (pdss_one (pds_ret pd_bl))
      pdss_nil)))
      (pdss_one (pds_app rfl (pd_var (pv 1)) (pd_tup (pda_cons (pd_var (pv 8)) (pda_cons (pd_tup (pda_cons (pd_var (pv 4)) (pda_cons (pd_var (pv 5)) (pda_cons (pd_var (pv 6)) pda_nil)))) pda_nil)))))))))))))))))
      (pdss_cons (pds_for (by exact PassesOwn.leaving) rfl (pdi_any rfl (pd_revA rfl (pd_var (pv 1)))) (pdg_tup rfl rfl (pdgs_cons (pdg_name hnd rfl (by first | exact Or.inl rfl | exact Or.inr rfl)) (pdgs_cons (pdg_name hnd rfl (by first | exact Or.inl rfl | exact Or.inr rfl)) pdgs_nil)))
      (pdss_one (pds_for (by exact PassesOwn.leaving) rfl (pdi_any rfl (pd_var (pv 1))) (pdg_tup rfl rfl (pdgs_cons (pdg_name hnd rfl (by first | exact Or.inl rfl | exact Or.inr rfl)) (pdgs_cons (pdg_name hnd rfl (by first | exact Or.inl rfl | exact Or.inr rfl)) pdgs_nil)))
      (pdss_one (pds_if (PDW.pt (pdw_or (pdt_cmp (po_ne rfl hr.units) (pd_own rfl C_Name_eq___mt hr (by decide) tk (T.ins n) (T.nf_Name n) (pd_var (pv 10)) (pd_var (pv 11)) (nomark _)) (pd_cmp (po_eq rfl hr.units) (pd_var (pv 13)) (pd_var (pv 14)) (nomark _)) (nomark _)) (pdw_or1 (pdt_cmp (po_eq rfl hr.units) (pd_ne rfl C_Name_eq___mt hr (by decide) tk (T.ins n) (T.nf_Name n) (T.ne_Name n) (pd_var (pv 10)) (pd_var (pv 11)) (nomark _)) (pd_cmp (po_eq rfl hr.units) (pd_var (pv 13)) (pd_var (pv 14)) (nomark _)) (nomark _)))))
      (pdss_one (pds_ret pd_bl))
      pdss_nil)))))
      (pdss_one (pds_ret pd_bl)))))
end
end K21
set_option maxHeartbeats 0
namespace K21
open PySem PySem.Spec PyProof.Rows L2 DL PG
section
variable {P : Program} {w : World} {K : PySem.W.Frag} {mg : Str → Option Value} {base h : Heap}
theorem fx (X : K.In h) (G : h.Ns mainGlobals mg) (ck : chk K = true) (c : He.SaysD fas fns K) : Fx K mg := by
  obtain ⟨k0, ck⟩ := Bool.and_eq_true_iff.mp ck
  obtain ⟨k1, ck⟩ := Bool.and_eq_true_iff.mp ck
  obtain ⟨k2, ck⟩ := Bool.and_eq_true_iff.mp ck
  obtain ⟨k3, ck⟩ := Bool.and_eq_true_iff.mp ck
  obtain ⟨k4, ck⟩ := Bool.and_eq_true_iff.mp ck
  obtain ⟨k5, ck⟩ := Bool.and_eq_true_iff.mp ck
  obtain ⟨k6, ck⟩ := Bool.and_eq_true_iff.mp ck
  obtain ⟨k7, ck⟩ := Bool.and_eq_true_iff.mp ck
  obtain ⟨k8, ck⟩ := Bool.and_eq_true_iff.mp ck
  obtain ⟨k9, ck⟩ := Bool.and_eq_true_iff.mp ck
  obtain ⟨k10, ck⟩ := Bool.and_eq_true_iff.mp ck
  obtain ⟨k11, ck⟩ := Bool.and_eq_true_iff.mp ck
  obtain ⟨k12, ck⟩ := Bool.and_eq_true_iff.mp ck
  obtain ⟨k13, ck⟩ := Bool.and_eq_true_iff.mp ck
  obtain ⟨k14, ck⟩ := Bool.and_eq_true_iff.mp ck
  obtain ⟨k15, ck⟩ := Bool.and_eq_true_iff.mp ck
  obtain ⟨k16, ck⟩ := Bool.and_eq_true_iff.mp ck
  obtain ⟨k17, ck⟩ := Bool.and_eq_true_iff.mp ck
  obtain ⟨k18, ck⟩ := Bool.and_eq_true_iff.mp ck
  obtain ⟨k19, ck⟩ := Bool.and_eq_true_iff.mp ck
  obtain ⟨k20, ck⟩ := Bool.and_eq_true_iff.mp ck
  obtain ⟨k21, ck⟩ := Bool.and_eq_true_iff.mp ck
  obtain ⟨k22, ck⟩ := Bool.and_eq_true_iff.mp ck
  obtain ⟨k23, ck⟩ := Bool.and_eq_true_iff.mp ck
  obtain ⟨k24, ck⟩ := Bool.and_eq_true_iff.mp ck
  obtain ⟨k25, ck⟩ := Bool.and_eq_true_iff.mp ck
  obtain ⟨k26, ck⟩ := Bool.and_eq_true_iff.mp ck
  obtain ⟨k27, ck⟩ := Bool.and_eq_true_iff.mp ck
  obtain ⟨k28, ck⟩ := Bool.and_eq_true_iff.mp ck
  obtain ⟨k29, ck⟩ := Bool.and_eq_true_iff.mp ck
  obtain ⟨k30, ck⟩ := Bool.and_eq_true_iff.mp ck
  obtain ⟨k31, ck⟩ := Bool.and_eq_true_iff.mp ck
  have k32 := ck
  exact {
    g_Block := He.glo_ok X G (c.fact 0 (f := .glo "Block") rfl)
    g_CellError := He.glo_ok X G (c.fact 1 (f := .glo "CellError") rfl)
    g_Endless := He.glo_ok X G (c.fact 2 (f := .glo "Endless") rfl)
    g_Gone := He.glo_ok X G (c.fact 3 (f := .glo "Gone") rfl)
    g_MANNERS := He.glo_ok X G (c.fact 4 (f := .glo "MANNERS") rfl)
    g_Name := He.glo_ok X G (c.fact 5 (f := .glo "Name") rfl)
    g_NoArea := He.glo_ok X G (c.fact 6 (f := .glo "NoArea") rfl)
    g_NoBlock := He.glo_ok X G (c.fact 7 (f := .glo "NoBlock") rfl)
    g_NoCell := He.glo_ok X G (c.fact 8 (f := .glo "NoCell") rfl)
    g_NoChange := He.glo_ok X G (c.fact 9 (f := .glo "NoChange") rfl)
    g_NoColumn := He.glo_ok X G (c.fact 10 (f := .glo "NoColumn") rfl)
    g_NoManner := He.glo_ok X G (c.fact 11 (f := .glo "NoManner") rfl)
    g_NoName := He.glo_ok X G (c.fact 12 (f := .glo "NoName") rfl)
    g_NoNumber := He.glo_ok X G (c.fact 13 (f := .glo "NoNumber") rfl)
    g_NoOrder := He.glo_ok X G (c.fact 14 (f := .glo "NoOrder") rfl)
    g_NoPlace := He.glo_ok X G (c.fact 15 (f := .glo "NoPlace") rfl)
    g_NoRow := He.glo_ok X G (c.fact 16 (f := .glo "NoRow") rfl)
    g_NoSheet := He.glo_ok X G (c.fact 17 (f := .glo "NoSheet") rfl)
    g_NoText := He.glo_ok X G (c.fact 18 (f := .glo "NoText") rfl)
    g_NoValue := He.glo_ok X G (c.fact 19 (f := .glo "NoValue") rfl)
    g_NoWord := He.glo_ok X G (c.fact 20 (f := .glo "NoWord") rfl)
    g_Ring := He.glo_ok X G (c.fact 21 (f := .glo "Ring") rfl)
    g_Unknown := He.glo_ok X G (c.fact 22 (f := .glo "Unknown") rfl)
    g_letters_ahead := He.glo_ok X G (c.fact 23 (f := .glo "letters_ahead") rfl)
    g_numbers_beside := He.glo_ok X G (c.fact 24 (f := .glo "numbers_beside") rfl)
    f_ValueError := He.free_ok X G (c.fact 25 (f := .free "ValueError") rfl)
    f_all := He.free_ok X G (c.fact 26 (f := .free "all") rfl)
    f_bool := He.free_ok X G (c.fact 27 (f := .free "bool") rfl)
    f_divmod := He.free_ok X G (c.fact 28 (f := .free "divmod") rfl)
    f_int := He.free_ok X G (c.fact 29 (f := .free "int") rfl)
    f_isinstance := He.free_ok X G (c.fact 30 (f := .free "isinstance") rfl)
    f_len := He.free_ok X G (c.fact 31 (f := .free "len") rfl)
    f_min := He.free_ok X G (c.fact 32 (f := .free "min") rfl)
    f_range := He.free_ok X G (c.fact 33 (f := .free "range") rfl)
    f_str := He.free_ok X G (c.fact 34 (f := .free "str") rfl)
    f_tuple := He.free_ok X G (c.fact 35 (f := .free "tuple") rfl)
    c_LETTERS := He.str_ok X G (c.fact 36 (f := .str "LETTERS" "ABCDEFGHIJKLMNOPQRSTUVWXYZ") rfl)
    x_NoBlock := fun n => exF_of (c.fact 37 (f := .exc "NoBlock") rfl)
    x_NoCell := fun n => exF_of (c.fact 38 (f := .exc "NoCell") rfl)
    x_NoColumn := fun n => exF_of (c.fact 39 (f := .exc "NoColumn") rfl)
    x_NoManner := fun n => exF_of (c.fact 40 (f := .exc "NoManner") rfl)
    x_NoName := fun n => exF_of (c.fact 41 (f := .exc "NoName") rfl)
    n_block := fun n => (all_cons ⟨He.cls_ok (c.fact 56 (f := .cls "Block") rfl), He.noat_ok (c.fact 42 (f := .noat "Block" "block") rfl)⟩ (all_cons ⟨He.cls_ok (c.fact 57 (f := .cls "Name") rfl), He.noat_ok (c.fact 43 (f := .noat "Name" "block") rfl)⟩ all_nil))
    n_bottom := fun n => (all_cons ⟨He.cls_ok (c.fact 56 (f := .cls "Block") rfl), He.noat_ok (c.fact 44 (f := .noat "Block" "bottom") rfl)⟩ (all_cons ⟨He.cls_ok (c.fact 57 (f := .cls "Name") rfl), He.noat_ok (c.fact 45 (f := .noat "Name" "bottom") rfl)⟩ all_nil))
    n_columns := fun n => (all_cons ⟨He.cls_ok (c.fact 56 (f := .cls "Block") rfl), He.noat_ok (c.fact 46 (f := .noat "Block" "columns") rfl)⟩ (all_cons ⟨He.cls_ok (c.fact 57 (f := .cls "Name") rfl), He.noat_ok (c.fact 47 (f := .noat "Name" "columns") rfl)⟩ all_nil))
    n_left := fun n => (all_cons ⟨He.cls_ok (c.fact 56 (f := .cls "Block") rfl), He.noat_ok (c.fact 48 (f := .noat "Block" "left") rfl)⟩ (all_cons ⟨He.cls_ok (c.fact 57 (f := .cls "Name") rfl), He.noat_ok (c.fact 49 (f := .noat "Name" "left") rfl)⟩ all_nil))
    n_right := fun n => (all_cons ⟨He.cls_ok (c.fact 56 (f := .cls "Block") rfl), He.noat_ok (c.fact 50 (f := .noat "Block" "right") rfl)⟩ (all_cons ⟨He.cls_ok (c.fact 57 (f := .cls "Name") rfl), He.noat_ok (c.fact 51 (f := .noat "Name" "right") rfl)⟩ all_nil))
    n_rows := fun n => (all_cons ⟨He.cls_ok (c.fact 56 (f := .cls "Block") rfl), He.noat_ok (c.fact 52 (f := .noat "Block" "rows") rfl)⟩ (all_cons ⟨He.cls_ok (c.fact 57 (f := .cls "Name") rfl), He.noat_ok (c.fact 53 (f := .noat "Name" "rows") rfl)⟩ all_nil))
    n_top := fun n => (all_cons ⟨He.cls_ok (c.fact 56 (f := .cls "Block") rfl), He.noat_ok (c.fact 54 (f := .noat "Block" "top") rfl)⟩ (all_cons ⟨He.cls_ok (c.fact 57 (f := .cls "Name") rfl), He.noat_ok (c.fact 55 (f := .noat "Name" "top") rfl)⟩ all_nil))
    ins := fun n => (all_cons (insB_ok (He.cls_ok (c.fact 56 (f := .cls "Block") rfl)) k0) (all_cons (insB_ok (He.cls_ok (c.fact 57 (f := .cls "Name") rfl)) k1) all_nil))
    k_Block := fun n => kitB_ok (S := S0 K) k2
    k_Name := fun n => kitB_ok (S := S0 K) k3
    k_bool := fun n => kitB_ok (S := S0 K) k4
    k_int := fun n => kitB_ok (S := S0 K) k5
    k_tuple := fun n => kitB_ok (S := S0 K) k6
    xk_Endless := fun n => (fun h => excsB_at (S := S0 K) h n) k7
    xk_Gone := fun n => (fun h => excsB_at (S := S0 K) h n) k8
    xk_NoArea := fun n => (fun h => excsB_at (S := S0 K) h n) k9
    xk_NoBlock := fun n => (fun h => excsB_at (S := S0 K) h n) k10
    xk_NoCell := fun n => (fun h => excsB_at (S := S0 K) h n) k11
    xk_NoChange := fun n => (fun h => excsB_at (S := S0 K) h n) k12
    xk_NoColumn := fun n => (fun h => excsB_at (S := S0 K) h n) k13
    xk_NoManner := fun n => (fun h => excsB_at (S := S0 K) h n) k14
    xk_NoName := fun n => (fun h => excsB_at (S := S0 K) h n) k15
    xk_NoNumber := fun n => (fun h => excsB_at (S := S0 K) h n) k16
    xk_NoOrder := fun n => (fun h => excsB_at (S := S0 K) h n) k17
    xk_NoPlace := fun n => (fun h => excsB_at (S := S0 K) h n) k18
    xk_NoRow := fun n => (fun h => excsB_at (S := S0 K) h n) k19
    xk_NoSheet := fun n => (fun h => excsB_at (S := S0 K) h n) k20
    xk_NoText := fun n => (fun h => excsB_at (S := S0 K) h n) k21
    xk_NoValue := fun n => (fun h => excsB_at (S := S0 K) h n) k22
    xk_NoWord := fun n => (fun h => excsB_at (S := S0 K) h n) k23
    xk_Ring := fun n => (fun h => excsB_at (S := S0 K) h n) k24
    xk_Unknown := fun n => (fun h => excsB_at (S := S0 K) h n) k25
    xk_ValueError := fun n => (fun h => excsB_at (S := S0 K) h n) k26
    xm_CellError := fun n => exmB_ok (S := S0 K) k27
    t_MANNERS := fun n => (fun h => tupF_of (l := (["letters", "numbers"] : List Str)) h (by decide +kernel)) k28
    nf_Block := fun n => nfB_ok (S := S0 K) k29
    nf_Name := fun n => nfB_ok (S := S0 K) k30
    ne_Block := fun n => neB_at (S := S0 K) k31
    ne_Name := fun n => neB_at (S := S0 K) k32 }
theorem facts (X : K.In h) (G : h.Ns mainGlobals mg) {f : Addr} (hfa : mg ("law" : Str) = some (.ref f)) (ck : chk K = true) (c : He.SaysD fas fns K) :
    ∃ fd : FuncData, (∀ (s : Shared) (v : Value), BindsTo s fd ⟨[v], []⟩ [("_law_script", v)]) ∧ ∀ base : Heap, K.In base → base.Ns mainGlobals mg → FnOk P w K mg base (CXA P) 10 f fd ["_law_script"] (spD (S0 K) 1 G_law_k21) := by
  have T := fx X G ck c
  obtain ⟨fd_law_well, F_law_well⟩ := c.def_ 0 (d := d_law_well) rfl
  obtain ⟨fd_law_draw, F_law_draw⟩ := c.def_ 1 (d := d_law_draw) rfl
  obtain ⟨fd_law_number, F_law_number⟩ := c.def_ 2 (d := d_law_number) rfl
  obtain ⟨fd_law_last, F_law_last⟩ := c.def_ 3 (d := d_law_last) rfl
  obtain ⟨fd_law_block, F_law_block⟩ := c.def_ 4 (d := d_law_block) rfl
  obtain ⟨fd_law_is_columns, F_law_is_columns⟩ := c.def_ 5 (d := d_law_is_columns) rfl
  obtain ⟨fd_law_is_rows, F_law_is_rows⟩ := c.def_ 6 (d := d_law_is_rows) rfl
  obtain ⟨fd_law_is_cell, F_law_is_cell⟩ := c.def_ 7 (d := d_law_is_cell) rfl
  obtain ⟨fd_law_marks, F_law_marks⟩ := c.def_ 8 (d := d_law_marks) rfl
  obtain ⟨fd_is_whole, F_is_whole⟩ := c.def_ 9 (d := d_is_whole) rfl
  obtain ⟨fd_is_count, F_is_count⟩ := c.def_ 10 (d := d_is_count) rfl
  obtain ⟨fd_is_end, F_is_end⟩ := c.def_ 11 (d := d_is_end) rfl
  obtain ⟨fd_Block_init__, F_Block_init__⟩ := c.def_ 12 (d := d_Block_init__) rfl
  obtain ⟨fd_law_may, F_law_may⟩ := c.def_ 13 (d := d_law_may) rfl
  obtain ⟨fd_are_marks, F_are_marks⟩ := c.def_ 14 (d := d_are_marks) rfl
  obtain ⟨fd_Block_size, F_Block_size⟩ := c.def_ 15 (d := d_Block_size) rfl
  obtain ⟨fd_may_be, F_may_be⟩ := c.def_ 16 (d := d_may_be) rfl
  obtain ⟨fd_is_columns, F_is_columns⟩ := c.def_ 17 (d := d_is_columns) rfl
  obtain ⟨fd_is_rows, F_is_rows⟩ := c.def_ 18 (d := d_is_rows) rfl
  obtain ⟨fd_Name_init__, F_Name_init__⟩ := c.def_ 19 (d := d_Name_init__) rfl
  obtain ⟨fd_law_word, F_law_word⟩ := c.def_ 20 (d := d_law_word) rfl
  obtain ⟨fd_law_tried, F_law_tried⟩ := c.def_ 21 (d := d_law_tried) rfl
  obtain ⟨fd_Block_eq__, F_Block_eq__⟩ := c.def_ 22 (d := d_Block_eq__) rfl
  obtain ⟨fd_law_all_ways, F_law_all_ways⟩ := c.def_ 23 (d := d_law_all_ways) rfl
  obtain ⟨fd_law_bad, F_law_bad⟩ := c.def_ 24 (d := d_law_bad) rfl
  obtain ⟨fd_law_others_refused, F_law_others_refused⟩ := c.def_ 25 (d := d_law_others_refused) rfl
  obtain ⟨fd_Name_eq__, F_Name_eq__⟩ := c.def_ 26 (d := d_Name_eq__) rfl
  obtain ⟨fd_is_cell, F_is_cell⟩ := c.def_ 27 (d := d_is_cell) rfl
  obtain ⟨fd_checked_cell, F_checked_cell⟩ := c.def_ 28 (d := d_checked_cell) rfl
  obtain ⟨fd_checked_manner, F_checked_manner⟩ := c.def_ 29 (d := d_checked_manner) rfl
  obtain ⟨fd_fast_text, F_fast_text⟩ := c.def_ 30 (d := d_fast_text) rfl
  obtain ⟨fd_row_text, F_row_text⟩ := c.def_ 31 (d := d_row_text) rfl
  obtain ⟨fd_letters_of, F_letters_of⟩ := c.def_ 32 (d := d_letters_of) rfl
  obtain ⟨fd_column_text, F_column_text⟩ := c.def_ 33 (d := d_column_text) rfl
  obtain ⟨fd_numbers_beside, F_numbers_beside⟩ := c.def_ 34 (d := d_numbers_beside) rfl
  obtain ⟨fd_letters_ahead, F_letters_ahead⟩ := c.def_ 35 (d := d_letters_ahead) rfl
  obtain ⟨fd_by_ends, F_by_ends⟩ := c.def_ 36 (d := d_by_ends) rfl
  obtain ⟨fd_far_text, F_far_text⟩ := c.def_ 37 (d := d_far_text) rfl
  obtain ⟨fd_Name_shown, F_Name_shown⟩ := c.def_ 38 (d := d_Name_shown) rfl
  obtain ⟨fd_Name_str__, F_Name_str__⟩ := c.def_ 39 (d := d_Name_str__) rfl
  obtain ⟨fd_law, F_law⟩ := c.def_ 40 (d := d_law) rfl
  have e := hfa.symm.trans (He.glo_ok X G (c.fact 89 (f := .glo "law") rfl))
  cases e
  refine ⟨fd_law, fun s v => FunD.bindsA (ps := ["_law_script"]) F_law (fun _ _ _ _ _ _ us hl => match us, hl with | [_], _ => rfl) s [v] rfl, fun base _ _ => ?_⟩
  have C_law_well_nw : CalN false P w K mg base (S0 K) 1 "_law_well" 1 G_law_well dfl_law_well := ⟨_, _, _, He.glo_ok X G (c.fact 58 (f := .glo "_law_well") rfl), F_law_well.kp, fun j hj => by
    have e : j = 0 := Nat.le_zero.mp hj
    subst e
    exact dfl_none (F_law_well.bindsN fun _ _ _ _ _ _ us hl => match us, hl with | [_], _ => rfl), ok_law_well T  F_law_well⟩
  have C_law_draw_fn : CalD false P w K mg base (S0 K) 1 "_law_draw" 2 G_law_draw dfl_law_draw := ⟨_, _, _, He.glo_ok X G (c.fact 59 (f := .glo "_law_draw") rfl), F_law_draw.kp, fun j hj => by
    have e : j = 0 := Nat.le_zero.mp hj
    subst e
    exact dfl_none (F_law_draw.bindsN fun _ _ _ _ _ _ us hl => match us, hl with | [_, _], _ => rfl), ok_law_draw T  F_law_draw⟩
  have C_law_number_fn : CalD false P w K mg base (S0 K) 2 "_law_number" 1 G_law_number dfl_law_number := ⟨_, _, _, He.glo_ok X G (c.fact 60 (f := .glo "_law_number") rfl), F_law_number.kp, fun j hj => by
    have e : j = 0 := Nat.le_zero.mp hj
    subst e
    exact dfl_none (F_law_number.bindsN fun _ _ _ _ _ _ us hl => match us, hl with | [_], _ => rfl), ok_law_number T C_law_draw_fn F_law_number⟩
  have C_law_last_fn : CalD false P w K mg base (S0 K) 2 "_law_last" 2 G_law_last dfl_law_last := ⟨_, _, _, He.glo_ok X G (c.fact 61 (f := .glo "_law_last") rfl), F_law_last.kp, fun j hj => by
    have e : j = 0 := Nat.le_zero.mp hj
    subst e
    exact dfl_none (F_law_last.bindsN fun _ _ _ _ _ _ us hl => match us, hl with | [_, _], _ => rfl), ok_law_last T C_law_draw_fn F_law_last⟩
  have C_law_block_fn : CalD false P w K mg base (S0 K) 3 "_law_block" 1 G_law_block dfl_law_block := ⟨_, _, _, He.glo_ok X G (c.fact 62 (f := .glo "_law_block") rfl), F_law_block.kp, fun j hj => by
    have e : j = 0 := Nat.le_zero.mp hj
    subst e
    exact dfl_none (F_law_block.bindsN fun _ _ _ _ _ _ us hl => match us, hl with | [_], _ => rfl), ok_law_block T C_law_draw_fn C_law_number_fn C_law_last_fn F_law_block⟩
  have C_law_is_columns_fn : CalD false P w K mg base (S0 K) 1 "_law_is_columns" 1 G_law_is_columns dfl_law_is_columns := ⟨_, _, _, He.glo_ok X G (c.fact 63 (f := .glo "_law_is_columns") rfl), F_law_is_columns.kp, fun j hj => by
    have e : j = 0 := Nat.le_zero.mp hj
    subst e
    exact dfl_none (F_law_is_columns.bindsN fun _ _ _ _ _ _ us hl => match us, hl with | [_], _ => rfl), ok_law_is_columns T  F_law_is_columns⟩
  have C_law_is_rows_fn : CalD false P w K mg base (S0 K) 1 "_law_is_rows" 1 G_law_is_rows dfl_law_is_rows := ⟨_, _, _, He.glo_ok X G (c.fact 64 (f := .glo "_law_is_rows") rfl), F_law_is_rows.kp, fun j hj => by
    have e : j = 0 := Nat.le_zero.mp hj
    subst e
    exact dfl_none (F_law_is_rows.bindsN fun _ _ _ _ _ _ us hl => match us, hl with | [_], _ => rfl), ok_law_is_rows T  F_law_is_rows⟩
  have C_law_is_cell_fn : CalD false P w K mg base (S0 K) 1 "_law_is_cell" 1 G_law_is_cell dfl_law_is_cell := ⟨_, _, _, He.glo_ok X G (c.fact 65 (f := .glo "_law_is_cell") rfl), F_law_is_cell.kp, fun j hj => by
    have e : j = 0 := Nat.le_zero.mp hj
    subst e
    exact dfl_none (F_law_is_cell.bindsN fun _ _ _ _ _ _ us hl => match us, hl with | [_], _ => rfl), ok_law_is_cell T  F_law_is_cell⟩
  have C_law_marks_fn : CalD false P w K mg base (S0 K) 2 "_law_marks" 2 G_law_marks dfl_law_marks := ⟨_, _, _, He.glo_ok X G (c.fact 66 (f := .glo "_law_marks") rfl), F_law_marks.kp, fun j hj => by
    have e : j = 0 := Nat.le_zero.mp hj
    subst e
    exact dfl_none (F_law_marks.bindsN fun _ _ _ _ _ _ us hl => match us, hl with | [_, _], _ => rfl), ok_law_marks T C_law_draw_fn C_law_is_columns_fn C_law_is_rows_fn C_law_is_cell_fn F_law_marks⟩
  have C_is_whole_fn : CalD false P w K mg base (S0 K) 1 "is_whole" 1 G_is_whole dfl_is_whole := ⟨_, _, _, He.glo_ok X G (c.fact 67 (f := .glo "is_whole") rfl), F_is_whole.kp, fun j hj => by
    have e : j = 0 := Nat.le_zero.mp hj
    subst e
    exact dfl_none (F_is_whole.bindsN fun _ _ _ _ _ _ us hl => match us, hl with | [_], _ => rfl), ok_is_whole T  F_is_whole⟩
  have C_is_count_fn : CalD false P w K mg base (S0 K) 2 "is_count" 1 G_is_count dfl_is_count := ⟨_, _, _, He.glo_ok X G (c.fact 68 (f := .glo "is_count") rfl), F_is_count.kp, fun j hj => by
    have e : j = 0 := Nat.le_zero.mp hj
    subst e
    exact dfl_none (F_is_count.bindsN fun _ _ _ _ _ _ us hl => match us, hl with | [_], _ => rfl), ok_is_count T C_is_whole_fn F_is_count⟩
  have C_is_end_fn : CalD false P w K mg base (S0 K) 3 "is_end" 2 G_is_end dfl_is_end := ⟨_, _, _, He.glo_ok X G (c.fact 69 (f := .glo "is_end") rfl), F_is_end.kp, fun j hj => by
    have e : j = 0 := Nat.le_zero.mp hj
    subst e
    exact dfl_none (F_is_end.bindsN fun _ _ _ _ _ _ us hl => match us, hl with | [_, _], _ => rfl), ok_is_end T C_is_count_fn F_is_end⟩
  have C_Block_init___mk : MakD false P w K mg base (S0 K) 4 "Block" 5 G_Block_init__ dfl_Block_init__ := ⟨_, _, _, He.glo_ok X G (c.fact 0 (f := .glo "Block") rfl), mkF_of (show ("Block" : Str) ∈ (["Block", "Name"] : List Str) by decide) (He.mkr_ok (c.fact 90 (f := .mkr "Block") rfl)), fun j hj => by
    have hj : j ≤ 4 := hj
    match j, hj with
    | 0, _ =>
      obtain ⟨ds, h1, h2⟩ := F_Block_init__.binds1 (ps := ["self", "top", "left", "bottom", "right"]) 1 0 (by intro z; cases z) rfl (fun _ _ _ _ _ _ _ us its hl hl2 => match us, hl, its, hl2 with | [_], _, [_, _, _, _], _ => ⟨_, rfl, rfl⟩)
      exact dfl_of (dd := dfl_Block_init__) (by decide +kernel) h1 h2
    | 1, _ =>
      obtain ⟨ds, h1, h2⟩ := F_Block_init__.binds1 (ps := ["self", "top", "left", "bottom", "right"]) 2 1 (by intro z; cases z) rfl (fun _ _ _ _ _ _ _ us its hl hl2 => match us, hl, its, hl2 with | [_, _], _, [_, _, _, _], _ => ⟨_, rfl, rfl⟩)
      exact dfl_of (dd := dfl_Block_init__) (by decide +kernel) h1 h2
    | 2, _ =>
      obtain ⟨ds, h1, h2⟩ := F_Block_init__.binds1 (ps := ["self", "top", "left", "bottom", "right"]) 3 2 (by intro z; cases z) rfl (fun _ _ _ _ _ _ _ us its hl hl2 => match us, hl, its, hl2 with | [_, _, _], _, [_, _, _, _], _ => ⟨_, rfl, rfl⟩)
      exact dfl_of (dd := dfl_Block_init__) (by decide +kernel) h1 h2
    | 3, _ =>
      obtain ⟨ds, h1, h2⟩ := F_Block_init__.binds1 (ps := ["self", "top", "left", "bottom", "right"]) 4 3 (by intro z; cases z) rfl (fun _ _ _ _ _ _ _ us its hl hl2 => match us, hl, its, hl2 with | [_, _, _, _], _, [_, _, _, _], _ => ⟨_, rfl, rfl⟩)
      exact dfl_of (dd := dfl_Block_init__) (by decide +kernel) h1 h2
    | 4, _ =>
      obtain ⟨ds, h1, h2⟩ := F_Block_init__.binds1 (ps := ["self", "top", "left", "bottom", "right"]) 5 4 (by intro z; cases z) rfl (fun _ _ _ _ _ _ _ us its hl hl2 => match us, hl, its, hl2 with | [_, _, _, _, _], _, [_, _, _, _], _ => ⟨_, rfl, rfl⟩)
      exact dfl_of (dd := dfl_Block_init__) (by decide +kernel) h1 h2
, ok_Block_init__ T C_is_count_fn C_is_end_fn F_Block_init__⟩
  have C_law_may_fn : CalD false P w K mg base (S0 K) 2 "_law_may" 3 G_law_may dfl_law_may := ⟨_, _, _, He.glo_ok X G (c.fact 70 (f := .glo "_law_may") rfl), F_law_may.kp, fun j hj => by
    have e : j = 0 := Nat.le_zero.mp hj
    subst e
    exact dfl_none (F_law_may.bindsN fun _ _ _ _ _ _ us hl => match us, hl with | [_, _, _], _ => rfl), ok_law_may T C_law_is_cell_fn C_law_is_columns_fn C_law_is_rows_fn F_law_may⟩
  have C_are_marks_fn : CalD false P w K mg base (S0 K) 1 "are_marks" 1 G_are_marks dfl_are_marks := ⟨_, _, _, He.glo_ok X G (c.fact 71 (f := .glo "are_marks") rfl), F_are_marks.kp, fun j hj => by
    have e : j = 0 := Nat.le_zero.mp hj
    subst e
    exact dfl_none (F_are_marks.bindsN fun _ _ _ _ _ _ us hl => match us, hl with | [_], _ => rfl), ok_are_marks T  F_are_marks⟩
  have C_Block_size_mt : MetD false P w K mg base (S0 K) 1 "Block" "size" 1 G_Block_size dfl_Block_size := ⟨_, _, _, mtF_of (He.cls_ok (c.fact 56 (f := .cls "Block") rfl)) (He.meth_ok (c.fact 91 (f := .meth "Block" "size") rfl)), fun j hj => by
    have e : j = 0 := Nat.le_zero.mp hj
    subst e
    exact dfl_none (F_Block_size.bindsN fun _ _ _ _ _ _ us hl => match us, hl with | [_], _ => rfl), ok_Block_size T  F_Block_size⟩
  have C_may_be_fn : CalD false P w K mg base (S0 K) 1 "may_be" 4 G_may_be dfl_may_be := ⟨_, _, _, He.glo_ok X G (c.fact 72 (f := .glo "may_be") rfl), F_may_be.kp, fun j hj => by
    have e : j = 0 := Nat.le_zero.mp hj
    subst e
    exact dfl_none (F_may_be.bindsN fun _ _ _ _ _ _ us hl => match us, hl with | [_, _, _, _], _ => rfl), ok_may_be T  F_may_be⟩
  have C_is_columns_fn : CalD false P w K mg base (S0 K) 1 "is_columns" 1 G_is_columns dfl_is_columns := ⟨_, _, _, He.glo_ok X G (c.fact 73 (f := .glo "is_columns") rfl), F_is_columns.kp, fun j hj => by
    have e : j = 0 := Nat.le_zero.mp hj
    subst e
    exact dfl_none (F_is_columns.bindsN fun _ _ _ _ _ _ us hl => match us, hl with | [_], _ => rfl), ok_is_columns T  F_is_columns⟩
  have C_is_rows_fn : CalD false P w K mg base (S0 K) 1 "is_rows" 1 G_is_rows dfl_is_rows := ⟨_, _, _, He.glo_ok X G (c.fact 74 (f := .glo "is_rows") rfl), F_is_rows.kp, fun j hj => by
    have e : j = 0 := Nat.le_zero.mp hj
    subst e
    exact dfl_none (F_is_rows.bindsN fun _ _ _ _ _ _ us hl => match us, hl with | [_], _ => rfl), ok_is_rows T  F_is_rows⟩
  have C_Name_init___mk : MakD false P w K mg base (S0 K) 2 "Name" 4 G_Name_init__ dfl_Name_init__ := ⟨_, _, _, He.glo_ok X G (c.fact 5 (f := .glo "Name") rfl), mkF_of (show ("Name" : Str) ∈ (["Block", "Name"] : List Str) by decide) (He.mkr_ok (c.fact 92 (f := .mkr "Name") rfl)), fun j hj => by
    have hj : j ≤ 2 := hj
    match j, hj with
    | 0, _ =>
      obtain ⟨ds, h1, h2⟩ := F_Name_init__.binds1 (ps := ["self", "block", "rows", "columns"]) 2 0 (by intro z; cases z) rfl (fun _ _ _ _ _ _ _ us its hl hl2 => match us, hl, its, hl2 with | [_, _], _, [_, _], _ => ⟨_, rfl, rfl⟩)
      exact dfl_of (dd := dfl_Name_init__) (by decide +kernel) h1 h2
    | 1, _ =>
      obtain ⟨ds, h1, h2⟩ := F_Name_init__.binds1 (ps := ["self", "block", "rows", "columns"]) 3 1 (by intro z; cases z) rfl (fun _ _ _ _ _ _ _ us its hl hl2 => match us, hl, its, hl2 with | [_, _, _], _, [_, _], _ => ⟨_, rfl, rfl⟩)
      exact dfl_of (dd := dfl_Name_init__) (by decide +kernel) h1 h2
    | 2, _ =>
      obtain ⟨ds, h1, h2⟩ := F_Name_init__.binds1 (ps := ["self", "block", "rows", "columns"]) 4 2 (by intro z; cases z) rfl (fun _ _ _ _ _ _ _ us its hl hl2 => match us, hl, its, hl2 with | [_, _, _, _], _, [_, _], _ => ⟨_, rfl, rfl⟩)
      exact dfl_of (dd := dfl_Name_init__) (by decide +kernel) h1 h2
, ok_Name_init__ T C_are_marks_fn C_Block_size_mt C_may_be_fn C_is_columns_fn C_is_rows_fn F_Name_init__⟩
  have C_Name_init___mkK0_columns_rows_block : MakK false P w K mg base (S0 K) 2 "Name" 4 G_Name_init__ 0 ["columns", "rows", "block"] [2, 1, 0] dfl_Name_init__ := ⟨_, _, _, He.glo_ok X G (c.fact 5 (f := .glo "Name") rfl), mkF_of (show ("Name" : Str) ∈ (["Block", "Name"] : List Str) by decide) (He.mkr_ok (c.fact 92 (f := .mkr "Name") rfl)), kwm_of F_Name_init__ (by intro z; cases z) (by decide +kernel) rfl (fun _ _ _ _ _ _ _ _ us its ws h1 h2 h3 => match us, h1, its, h2, ws, h3 with | [], _, [_, _], _, [_, _, _], _ => ⟨_, rfl, rfl⟩), ok_Name_init__ T C_are_marks_fn C_Block_size_mt C_may_be_fn C_is_columns_fn C_is_rows_fn F_Name_init__⟩
  have C_Name_init___mkK1_columns_rows : MakK false P w K mg base (S0 K) 2 "Name" 4 G_Name_init__ 1 ["columns", "rows"] [0, 2, 1] dfl_Name_init__ := ⟨_, _, _, He.glo_ok X G (c.fact 5 (f := .glo "Name") rfl), mkF_of (show ("Name" : Str) ∈ (["Block", "Name"] : List Str) by decide) (He.mkr_ok (c.fact 92 (f := .mkr "Name") rfl)), kwm_of F_Name_init__ (by intro z; cases z) (by decide +kernel) rfl (fun _ _ _ _ _ _ _ _ us its ws h1 h2 h3 => match us, h1, its, h2, ws, h3 with | [_], _, [_, _], _, [_, _], _ => ⟨_, rfl, rfl⟩), ok_Name_init__ T C_are_marks_fn C_Block_size_mt C_may_be_fn C_is_columns_fn C_is_rows_fn F_Name_init__⟩
  have C_Name_init___mkK0_columns_block : MakK false P w K mg base (S0 K) 2 "Name" 4 G_Name_init__ 0 ["columns", "block"] [1, 2, 0] dfl_Name_init__ := ⟨_, _, _, He.glo_ok X G (c.fact 5 (f := .glo "Name") rfl), mkF_of (show ("Name" : Str) ∈ (["Block", "Name"] : List Str) by decide) (He.mkr_ok (c.fact 92 (f := .mkr "Name") rfl)), kwm_of F_Name_init__ (by intro z; cases z) (by decide +kernel) rfl (fun _ _ _ _ _ _ _ _ us its ws h1 h2 h3 => match us, h1, its, h2, ws, h3 with | [], _, [_, _], _, [_, _], _ => ⟨_, rfl, rfl⟩), ok_Name_init__ T C_are_marks_fn C_Block_size_mt C_may_be_fn C_is_columns_fn C_is_rows_fn F_Name_init__⟩
  have C_law_word_hp : CalP P w K mg base (S0 K) 1 "_law_word" 1 G_law_word := ⟨_, _, _, He.glo_ok X G (c.fact 75 (f := .glo "_law_word") rfl), F_law_word.kp, F_law_word.bindsN (fun _ _ _ _ _ _ us hl => match us, hl with | [_], _ => rfl), ok_law_word T  F_law_word⟩
  have C_law_tried_fn : CalD false P w K mg base (S0 K) 4 "_law_tried" 4 G_law_tried dfl_law_tried := ⟨_, _, _, He.glo_ok X G (c.fact 76 (f := .glo "_law_tried") rfl), F_law_tried.kp, fun j hj => by
    have e : j = 0 := Nat.le_zero.mp hj
    subst e
    exact dfl_none (F_law_tried.bindsN fun _ _ _ _ _ _ us hl => match us, hl with | [_, _, _, _], _ => rfl), ok_law_tried T C_Name_init___mk C_Name_init___mkK0_columns_rows_block C_Name_init___mkK1_columns_rows C_law_word_hp F_law_tried⟩
  have C_Block_eq___mt : MetD false P w K mg base (S0 K) 1 "Block" "__eq__" 2 G_Block_eq__ dfl_Block_eq__ := ⟨_, _, _, mtF_of (He.cls_ok (c.fact 56 (f := .cls "Block") rfl)) (He.meth_ok (c.fact 93 (f := .meth "Block" "__eq__") rfl)), fun j hj => by
    have e : j = 0 := Nat.le_zero.mp hj
    subst e
    exact dfl_none (F_Block_eq__.bindsN fun _ _ _ _ _ _ us hl => match us, hl with | [_, _], _ => rfl), ok_Block_eq__ T  F_Block_eq__⟩
  have C_law_all_ways_fn : CalD false P w K mg base (S0 K) 6 "_law_all_ways" 3 G_law_all_ways dfl_law_all_ways := ⟨_, _, _, He.glo_ok X G (c.fact 77 (f := .glo "_law_all_ways") rfl), F_law_all_ways.kp, fun j hj => by
    have e : j = 0 := Nat.le_zero.mp hj
    subst e
    exact dfl_none (F_law_all_ways.bindsN fun _ _ _ _ _ _ us hl => match us, hl with | [_, _, _], _ => rfl), ok_law_all_ways T C_law_may_fn C_law_tried_fn C_law_draw_fn C_Block_eq___mt F_law_all_ways⟩
  have C_law_bad_fn : CalD false P w K mg base (S0 K) 2 "_law_bad" 1 G_law_bad dfl_law_bad := ⟨_, _, _, He.glo_ok X G (c.fact 78 (f := .glo "_law_bad") rfl), F_law_bad.kp, fun j hj => by
    have e : j = 0 := Nat.le_zero.mp hj
    subst e
    exact dfl_none (F_law_bad.bindsN fun _ _ _ _ _ _ us hl => match us, hl with | [_], _ => rfl), ok_law_bad T C_law_draw_fn F_law_bad⟩
  have C_law_others_refused_fn : CalD false P w K mg base (S0 K) 5 "_law_others_refused" 4 G_law_others_refused dfl_law_others_refused := ⟨_, _, _, He.glo_ok X G (c.fact 79 (f := .glo "_law_others_refused") rfl), F_law_others_refused.kp, fun j hj => by
    have e : j = 0 := Nat.le_zero.mp hj
    subst e
    exact dfl_none (F_law_others_refused.bindsN fun _ _ _ _ _ _ us hl => match us, hl with | [_, _, _, _], _ => rfl), ok_law_others_refused T C_law_bad_fn C_Name_init___mk C_law_draw_fn C_law_tried_fn F_law_others_refused⟩
  have C_Name_eq___mt : MetD false P w K mg base (S0 K) 3 "Name" "__eq__" 2 G_Name_eq__ dfl_Name_eq__ := ⟨_, _, _, mtF_of (He.cls_ok (c.fact 57 (f := .cls "Name") rfl)) (He.meth_ok (c.fact 94 (f := .meth "Name" "__eq__") rfl)), fun j hj => by
    have e : j = 0 := Nat.le_zero.mp hj
    subst e
    exact dfl_none (F_Name_eq__.bindsN fun _ _ _ _ _ _ us hl => match us, hl with | [_, _], _ => rfl), ok_Name_eq__ T C_Block_eq___mt F_Name_eq__⟩
  have C_is_cell_fn : CalD false P w K mg base (S0 K) 3 "is_cell" 1 G_is_cell dfl_is_cell := ⟨_, _, _, He.glo_ok X G (c.fact 80 (f := .glo "is_cell") rfl), F_is_cell.kp, fun j hj => by
    have e : j = 0 := Nat.le_zero.mp hj
    subst e
    exact dfl_none (F_is_cell.bindsN fun _ _ _ _ _ _ us hl => match us, hl with | [_], _ => rfl), ok_is_cell T C_is_count_fn F_is_cell⟩
  have C_checked_cell_fn : CalD false P w K mg base (S0 K) 4 "checked_cell" 1 G_checked_cell dfl_checked_cell := ⟨_, _, _, He.glo_ok X G (c.fact 81 (f := .glo "checked_cell") rfl), F_checked_cell.kp, fun j hj => by
    have e : j = 0 := Nat.le_zero.mp hj
    subst e
    exact dfl_none (F_checked_cell.bindsN fun _ _ _ _ _ _ us hl => match us, hl with | [_], _ => rfl), ok_checked_cell T C_is_cell_fn F_checked_cell⟩
  have C_checked_manner_fn : CalD false P w K mg base (S0 K) 5 "checked_manner" 2 G_checked_manner dfl_checked_manner := ⟨_, _, _, He.glo_ok X G (c.fact 82 (f := .glo "checked_manner") rfl), F_checked_manner.kp, fun j hj => by
    have e : j = 0 := Nat.le_zero.mp hj
    subst e
    exact dfl_none (F_checked_manner.bindsN fun _ _ _ _ _ _ us hl => match us, hl with | [_, _], _ => rfl), ok_checked_manner T C_checked_cell_fn F_checked_manner⟩
  have C_fast_text_fn : CalD false P w K mg base (S0 K) 1 "fast_text" 2 G_fast_text dfl_fast_text := ⟨_, _, _, He.glo_ok X G (c.fact 83 (f := .glo "fast_text") rfl), F_fast_text.kp, fun j hj => by
    have e : j = 0 := Nat.le_zero.mp hj
    subst e
    exact dfl_none (F_fast_text.bindsN fun _ _ _ _ _ _ us hl => match us, hl with | [_, _], _ => rfl), ok_fast_text T  F_fast_text⟩
  have C_row_text_fn : CalD false P w K mg base (S0 K) 1 "row_text" 1 G_row_text dfl_row_text := ⟨_, _, _, He.glo_ok X G (c.fact 84 (f := .glo "row_text") rfl), F_row_text.kp, fun j hj => by
    have e : j = 0 := Nat.le_zero.mp hj
    subst e
    exact dfl_none (F_row_text.bindsN fun _ _ _ _ _ _ us hl => match us, hl with | [_], _ => rfl), ok_row_text T  F_row_text⟩
  have C_letters_of_fn : CalD false P w K mg base (S0 K) 3 "letters_of" 1 G_letters_of dfl_letters_of := ⟨_, _, _, He.glo_ok X G (c.fact 85 (f := .glo "letters_of") rfl), F_letters_of.kp, fun j hj => by
    have e : j = 0 := Nat.le_zero.mp hj
    subst e
    exact dfl_none (F_letters_of.bindsN fun _ _ _ _ _ _ us hl => match us, hl with | [_], _ => rfl), ok_letters_of T C_is_count_fn F_letters_of⟩
  have C_column_text_fn : CalD false P w K mg base (S0 K) 4 "column_text" 1 G_column_text dfl_column_text := ⟨_, _, _, He.glo_ok X G (c.fact 86 (f := .glo "column_text") rfl), F_column_text.kp, fun j hj => by
    have e : j = 0 := Nat.le_zero.mp hj
    subst e
    exact dfl_none (F_column_text.bindsN fun _ _ _ _ _ _ us hl => match us, hl with | [_], _ => rfl), ok_column_text T C_letters_of_fn F_column_text⟩
  have C_numbers_beside_fn : CalD false P w K mg base (S0 K) 1 "numbers_beside" 2 G_numbers_beside dfl_numbers_beside := ⟨_, _, _, He.glo_ok X G (c.fact 24 (f := .glo "numbers_beside") rfl), F_numbers_beside.kp, fun j hj => by
    have e : j = 0 := Nat.le_zero.mp hj
    subst e
    exact dfl_none (F_numbers_beside.bindsN fun _ _ _ _ _ _ us hl => match us, hl with | [_, _], _ => rfl), ok_numbers_beside T  F_numbers_beside⟩
  have C_letters_ahead_fn : CalD false P w K mg base (S0 K) 1 "letters_ahead" 2 G_letters_ahead dfl_letters_ahead := ⟨_, _, _, He.glo_ok X G (c.fact 23 (f := .glo "letters_ahead") rfl), F_letters_ahead.kp, fun j hj => by
    have e : j = 0 := Nat.le_zero.mp hj
    subst e
    exact dfl_none (F_letters_ahead.bindsN fun _ _ _ _ _ _ us hl => match us, hl with | [_, _], _ => rfl), ok_letters_ahead T  F_letters_ahead⟩
  have C_by_ends_fn : CalD false P w K mg base (S0 K) 2 "by_ends" 4 G_by_ends_k22 dfl_by_ends_k22 := ⟨_, _, _, He.glo_ok X G (c.fact 87 (f := .glo "by_ends") rfl), F_by_ends.kp, fun j hj => by
    have e : j = 0 := Nat.le_zero.mp hj
    subst e
    exact dfl_none (F_by_ends.bindsN fun _ _ _ _ _ _ us hl => match us, hl with | [_, _, _, _], _ => rfl), ok_by_ends T C_is_rows_fn C_is_columns_fn C_numbers_beside_fn C_letters_ahead_fn C_Block_size_mt F_by_ends⟩
  have C_far_text_fn : CalD false P w K mg base (S0 K) 1 "far_text" 4 G_far_text dfl_far_text := ⟨_, _, _, He.glo_ok X G (c.fact 88 (f := .glo "far_text") rfl), F_far_text.kp, fun j hj => by
    have e : j = 0 := Nat.le_zero.mp hj
    subst e
    exact dfl_none (F_far_text.bindsN fun _ _ _ _ _ _ us hl => match us, hl with | [_, _, _, _], _ => rfl), ok_far_text T  F_far_text⟩
  have C_Name_shown_mt : MetD false P w K mg base (S0 K) 6 "Name" "shown" 3 G_Name_shown dfl_Name_shown := ⟨_, _, _, mtF_of (He.cls_ok (c.fact 57 (f := .cls "Name") rfl)) (He.meth_ok (c.fact 95 (f := .meth "Name" "shown") rfl)), fun j hj => by
    have hj : j ≤ 2 := hj
    match j, hj with
    | 0, _ =>
      obtain ⟨ds, h1, h2⟩ := F_Name_shown.binds1 (ps := ["self", "manner", "base"]) 1 0 (by intro z; cases z) rfl (fun _ _ _ _ _ _ _ us its hl hl2 => match us, hl, its, hl2 with | [_], _, [_, _], _ => ⟨_, rfl, rfl⟩)
      exact dfl_of (dd := dfl_Name_shown) (by decide +kernel) h1 h2
    | 1, _ =>
      obtain ⟨ds, h1, h2⟩ := F_Name_shown.binds1 (ps := ["self", "manner", "base"]) 2 1 (by intro z; cases z) rfl (fun _ _ _ _ _ _ _ us its hl hl2 => match us, hl, its, hl2 with | [_, _], _, [_, _], _ => ⟨_, rfl, rfl⟩)
      exact dfl_of (dd := dfl_Name_shown) (by decide +kernel) h1 h2
    | 2, _ =>
      obtain ⟨ds, h1, h2⟩ := F_Name_shown.binds1 (ps := ["self", "manner", "base"]) 3 2 (by intro z; cases z) rfl (fun _ _ _ _ _ _ _ us its hl hl2 => match us, hl, its, hl2 with | [_, _, _], _, [_, _], _ => ⟨_, rfl, rfl⟩)
      exact dfl_of (dd := dfl_Name_shown) (by decide +kernel) h1 h2
, ok_Name_shown T C_checked_manner_fn C_fast_text_fn C_row_text_fn C_column_text_fn C_by_ends_fn C_far_text_fn F_Name_shown⟩
  have C_Name_str___mt : MetD false P w K mg base (S0 K) 7 "Name" "__str__" 1 G_Name_str__ dfl_Name_str__ := ⟨_, _, _, mtF_of (He.cls_ok (c.fact 57 (f := .cls "Name") rfl)) (He.meth_ok (c.fact 96 (f := .meth "Name" "__str__") rfl)), fun j hj => by
    have e : j = 0 := Nat.le_zero.mp hj
    subst e
    exact dfl_none (F_Name_str__.bindsN fun _ _ _ _ _ _ us hl => match us, hl with | [_], _ => rfl), ok_Name_str__ T C_Name_shown_mt F_Name_str__⟩
  exact fnOk_any (md := false) (ok_law T C_law_well_nw C_law_block_fn C_law_marks_fn C_Block_init___mk C_law_all_ways_fn C_law_others_refused_fn C_Name_init___mk C_Name_init___mkK0_columns_block C_Block_eq___mt C_Name_init___mkK1_columns_rows C_Name_eq___mt C_Name_str___mt F_law)
end
end K21
open PySem PySem.W PySem.Calls PyProof.Rows
theorem K21.end_ (main : ∀ ns : List Int, ns.length ≤ 63 → ∃ μ, PG.G_law_k21 [.scr ns] [] = .ok (.bl true) μ) : PySem.Challenge.rw_cellblocks_k21_names_made.Holds := by
  w_on; o_law
  refine HandSHeadRun.head_any (r := OpenLaw.row PySem.Challenge.rw_cellblocks_k21_names_made) (q := view (OpenLaw.row PySem.Challenge.rw_cellblocks_k21_names_made).prog [65]) (H := K21.hk) (ob := K21.ob) (M := 16000) (loose := K21.nms) (d := HandSHeadRun.topDef (OpenLaw.row PySem.Challenge.rw_cellblocks_k21_names_made).prog 65) (kwd := []) K21.ob_eq
    (by kernel_rfl) (fun s => by kernel_rfl) K21.run (by kernel_rfl) (by kernel_rfl) (by kernel_rfl) (by rfl) (by first | assumption | decide +kernel) (by decide +kernel) ⟨rfl, rfl, rfl, rfl, rfl, by decide +kernel⟩ ?hw ?hc
  case hw => w_witness2
  case hc =>
    refine L2.walk_ofE (l := PySem.Challenge.rw_cellblocks_k21_names_made) (n := 63) (k := 10) (x := "_law_script") (CX := DL.CXA (PySem.Challenge.rw_cellblocks_k21_names_made).prog) rfl (by decide) (by kernel_rfl) ⟨rfl, by decide, by decide⟩ ?F (fun _ _ _ _ z => DL.cxA_false z)
    intro w mg fa h Y G hmg0
    obtain ⟨K, KX, c⟩ := Y
    have hmg : mg ("law" : PySem.Str) = some (.ref fa) := by
      have e : (HandSHeadRun.topDef (OpenLaw.row PySem.Challenge.rw_cellblocks_k21_names_made).prog 65).name = ("law" : PySem.Str) := by kernel_rfl
      rw [← e]
      exact hmg0
    obtain ⟨c1, c2⟩ := DL.saysX c
    obtain ⟨fd, hb, hF⟩ := K21.facts (P := (PySem.Challenge.rw_cellblocks_k21_names_made).prog) (w := w) KX G hmg c1 c2
    exact ⟨K, fd, _, KX, hb, fun H a ns hl _ hS => DL.law_sp (main ns hl) hS, hF⟩
theorem PySem.Challenge.cw_cellblocks_k21_names_made_holds : PySem.Challenge.rw_cellblocks_k21_names_made.Holds := by
  exact K21.end_ fun ns h => PG.law_main21 h
