import PyProof.Rows.All
import Wide.All
import OpenK.AllK
import Wide.FinOn
import HandS.ForMost
import HandS.ForExc
import HandS.ExcCtx
import HandS.CallSlots
import HandS.Flow
import HandS.Wide
import HandS.IsInst
import HandS.Walk
import HandS.Style
import HandS.Defaults
import HandS.SuiteRaise
import HandS.HeadHook1
import KE.KStateDown
import HandS.Head0
import HandS.Head1
import HandS.Head2
import HandS.HeadEnd
import HandS.HeadHook2
import HandS.StrMore
import KE.KRevSl
import KE.DataCmp
import KE.SortData
import HandS.OwnEq
import PyProof.InstNe
import HandS.MakeKw
import KE.KFmtOwn
import HandS.FStr
import HandS.CallLocal
import HandS.Text
import HandS.Replace
import HandS.RaiseMore
import HandS.Conv
import HandS.ReplaceLit
import PyProof.ToksMono
import HandS.HotCalls
import HandS.ExcIs
import KE.KExcIs
import HandS.FStrTup
import HandS.TupAny
import HandS.ExcInit
import PySem.Challenge.RW_cellblocks_k31_changes_made
set_option Elab.async false
set_option linter.all false
set_option maxRecDepth 100000
/-! A small interpreter's data: what a Python value is worth (D), the cells that may change (M), and how both lie in the layer's heap. -/
namespace DL
open PySem PySem.Spec PyProof.Rows L2
/-- a datum: what never changes is a tree; mut i is the cell number i -/
inductive D where
  | non | bl (b : Bool) | int (i : Int) | str (s : Str) | ty (n : String) | glo (x : Str)
  | tup (l : List D) | lst (l : List D) | dct (ks : List Key) (l : List D) | obj (c : Str) (ns : List Str) (l : List D)
  | cel (i : Nat) | scr (ns : List Int) | exc (c : Str) (ns : List Str) (l : List D)
  /-- some text: which one is not known -/
  | txt
/-- a cell that may change -/
inductive M where
  | lst (l : List D) | dct (ks : List Key) (l : List D) | obj (c : Str) (ns : List Str) (l : List D) | dead
structure Sx where
  K : PySem.W.Frag
  A : Str → Addr
  n0 : Nat
  pn : List (Addr × Obj)
  cls : List Str
structure Cf where
  io : List Addr
  F : Hp
  H : Hp
def Ex (H H' : Hp) : Prop := ∀ a o, H a = some o → H' a = some o
theorem Ex.refl (H : Hp) : Ex H H := fun _ _ h => h
theorem Ex.trans {H H1 H2 : Hp} (a : Ex H H1) (b : Ex H1 H2) : Ex H H2 := fun x o h => b x o (a x o h)
theorem Ex.new {H : Hp} {p : Addr} {o : HO} (h : H p = none) : Ex H (upd H p o) := fun a u e => by
  rw [upd_ne (ne_of_none e h)]
  exact e
theorem Ex.back {H H' : Hp} {p : Addr} (e : Ex H H') (h : H' p = none) : H p = none := by
  cases h1 : H p with
  | none => rfl
  | some o => rw [e p o h1] at h; cases h
theorem Ex.upd {F H : Hp} {p : Addr} {o : HO} (e : Ex F H) : Ex (L2.upd F p o) (L2.upd H p o) := fun a u h => by
  by_cases q : a = p
  · subst q; rw [upd_same] at h ⊢; exact h
  · rw [upd_ne q] at h ⊢; exact e a u h
theorem Ex.updR {F H : Hp} {p : Addr} {o : HO} (e : Ex F H) (h : F p = none) : Ex F (L2.upd H p o) := fun a u q => by
  rw [upd_ne (ne_of_none q h)]; exact e a u q
theorem ex_rd {H H' : Hp} {a : Addr} {u : HO} (e : Ex H H') (h : Rd H a u) : Rd H' a u := by
  rcases h with h | ⟨o, h⟩
  · exact Or.inl (e a _ h)
  · exact Or.inr ⟨o, e a _ h⟩
theorem ex_l {K : PySem.W.Frag} {H H' : Hp} {a : Addr} {xs : List V} (e : Ex H H') (h : SqL K H a xs) : SqL K H' a xs := by
  rcases h with h | h
  · exact Or.inl (ex_rd e h)
  · exact Or.inr h
theorem ex_t {K : PySem.W.Frag} {H H' : Hp} {a : Addr} {xs : List V} (e : Ex H H') (h : SqT K H a xs) : SqT K H' a xs := by
  rcases h with h | h
  · exact Or.inl (ex_rd e h)
  · exact Or.inr h
theorem sq_of {K : PySem.W.Frag} {H : Hp} {a : Addr} {xs : List V} (h : H a = some (.lst xs)) : SqL K H a xs := Or.inl (Or.inl h)
theorem st_of {K : PySem.W.Frag} {H : Hp} {a : Addr} {xs : List V} (h : H a = some (.tup xs)) : SqT K H a xs := Or.inl (Or.inl h)
/-! ### how a datum lies in the heap -/
def okS (x : Str) : Bool := x.cps.all (· < 0x110000)
mutual
def rep (S : Sx) (io : List Addr) (F : Hp) : D → V → Prop
  | .non, v => v = .non
  | .bl b, v => v = .bl b
  | .int i, v => v = .int i
  | .str s, v => v = .str s ∧ okS s = true
  | .ty n, v => v = .ty n
  | .glo x, v => v = .ref (S.A x)
  | .tup l, v => ∃ a xs, v = .ref a ∧ SqT S.K F a xs ∧ reps S io F l xs
  | .lst l, v => ∃ a xs, v = .ref a ∧ F a = some (.lst xs) ∧ reps S io F l xs
  | .scr ns, v => ∃ a, v = .ref a ∧ SqL S.K F a (ns.map V.int)
  | .dct ks l, v => ∃ a kvs, v = .ref a ∧ F a = some (.dK kvs) ∧ kvs.map (·.1) = ks ∧ reps S io F l (kvs.map (·.2))
  | .obj c ns l, v => ∃ a dx fs, v = .ref a ∧ F a = some (.ins (S.A c) dx fs) ∧ fs.map (·.1) = ns ∧ reps S io F l (fs.map (·.2)) ∧ c ∈ S.cls
  | .cel i, v => ∃ a, v = .ref a ∧ io[i]? = some a
  | .exc c ns l, v => ∃ a oe d, v = .ref a ∧ (a, oe) ∈ S.pn ∧ Zc (.ref (S.A c)) d oe ∧ (∃ vs, oe.data = .fields vs) ∧
      ((ns = [] ∧ l = [] ∧ d = none) ∨ ∃ dd fs, d = some dd ∧ F dd = some (.xd fs) ∧ fs.map (·.1) = ns ∧ reps S io F l (fs.map (·.2)))
  | .txt, v => ∃ m, v = .str m
def reps (S : Sx) (io : List Addr) (F : Hp) : List D → List V → Prop
  | [], xs => xs = []
  | d :: l, xs => ∃ x r, xs = x :: r ∧ rep S io F d x ∧ reps S io F l r
end
mutual
theorem rep.mono {S : Sx} {io io' : List Addr} {F F' : Hp} (hi : io <+: io') (e : Ex F F') : ∀ (d : D) {v : V}, rep S io F d v → rep S io' F' d v
  | .non, _, h => by unfold rep at h ⊢; exact h
  | .bl b, _, h => by unfold rep at h ⊢; exact h
  | .int i, _, h => by unfold rep at h ⊢; exact h
  | .str s, _, h => by unfold rep at h ⊢; exact h
  | .ty n, _, h => by unfold rep at h ⊢; exact h
  | .glo x, _, h => by unfold rep at h ⊢; exact h
  | .tup l, _, h => by
    unfold rep at h ⊢
    obtain ⟨a, xs, h1, h2, h3⟩ := h
    exact ⟨a, xs, h1, ex_t e h2, reps.mono hi e l h3⟩
  | .lst l, _, h => by
    unfold rep at h ⊢
    obtain ⟨a, xs, h1, h2, h3⟩ := h
    exact ⟨a, xs, h1, e _ _ h2, reps.mono hi e l h3⟩
  | .scr ns, _, h => by
    unfold rep at h ⊢
    obtain ⟨a, h1, h2⟩ := h
    exact ⟨a, h1, ex_l e h2⟩
  | .dct ks l, _, h => by
    unfold rep at h ⊢
    obtain ⟨a, xs, h1, h2, h3, h4⟩ := h
    exact ⟨a, xs, h1, e _ _ h2, h3, reps.mono hi e l h4⟩
  | .obj c ns l, _, h => by
    unfold rep at h ⊢
    obtain ⟨a, dx, fs, h1, h2, h3, h4, h5⟩ := h
    exact ⟨a, dx, fs, h1, e _ _ h2, h3, reps.mono hi e l h4, h5⟩
  | .cel i, _, h => by
    unfold rep at h ⊢
    obtain ⟨a, h1, h2⟩ := h
    obtain ⟨z, rfl⟩ := hi
    refine ⟨a, h1, ?_⟩
    rw [List.getElem?_append_left (List.getElem?_eq_some_iff.mp h2).1]
    exact h2
  | .exc c ns l, _, h => by
    unfold rep at h ⊢
    obtain ⟨a, oe, d, h1, h2, h3, h4, h5⟩ := h
    refine ⟨a, oe, d, h1, h2, h3, h4, ?_⟩
    rcases h5 with h5 | ⟨dd, fs, h5, h6, h7, h8⟩
    · exact Or.inl h5
    · exact Or.inr ⟨dd, fs, h5, e _ _ h6, h7, reps.mono hi e l h8⟩
  | .txt, _, h => by unfold rep at h ⊢; exact h
theorem reps.mono {S : Sx} {io io' : List Addr} {F F' : Hp} (hi : io <+: io') (e : Ex F F') : ∀ (l : List D) {xs : List V}, reps S io F l xs → reps S io' F' l xs
  | [], _, h => by unfold reps at h ⊢; exact h
  | d :: l, _, h => by
    unfold reps at h ⊢
    obtain ⟨x, r, h1, h2, h3⟩ := h
    exact ⟨x, r, h1, rep.mono hi e d h2, reps.mono hi e l h3⟩
end
section
variable {S : Sx} {io : List Addr} {F : Hp}
theorem reps.nil : reps S io F [] [] := by unfold reps; rfl
theorem reps.cons {d : D} {l : List D} {x : V} {r : List V} (h : rep S io F d x) (t : reps S io F l r) : reps S io F (d :: l) (x :: r) := by
  unfold reps; exact ⟨x, r, rfl, h, t⟩
theorem reps.len : ∀ {l : List D} {xs : List V}, reps S io F l xs → l.length = xs.length
  | [], _, h => by unfold reps at h; rw [h]; rfl
  | d :: l, _, h => by
    unfold reps at h
    obtain ⟨x, r, rfl, _, h3⟩ := h
    rw [List.length_cons, List.length_cons, reps.len h3]
theorem reps.uncons {d : D} {l : List D} {xs : List V} (h : reps S io F (d :: l) xs) : ∃ x r, xs = x :: r ∧ rep S io F d x ∧ reps S io F l r := by
  unfold reps at h; exact h
theorem reps.eq_nil {xs : List V} (h : reps S io F [] xs) : xs = [] := by unfold reps at h; exact h
theorem reps.get : ∀ {l : List D} {xs : List V} {i : Nat} {d : D}, reps S io F l xs → l[i]? = some d → ∃ x, xs[i]? = some x ∧ rep S io F d x
  | [], _, _, _, _, e => by simp at e
  | d :: l, _, 0, _, h, e => by
    obtain ⟨x, r, rfl, h2, _⟩ := h.uncons
    simp at e; subst e
    exact ⟨x, rfl, h2⟩
  | d :: l, _, i + 1, _, h, e => by
    obtain ⟨x, r, rfl, _, h3⟩ := h.uncons
    simpa using reps.get (i := i) h3 (by simpa using e)
theorem reps.getV : ∀ {l : List D} {xs : List V} {i : Nat} {x : V}, reps S io F l xs → xs[i]? = some x → ∃ d, l[i]? = some d ∧ rep S io F d x
  | [], _, _, _, h, e => by rw [h.eq_nil] at e; simp at e
  | d :: l, _, 0, _, h, e => by
    obtain ⟨x, r, rfl, h2, _⟩ := h.uncons
    simp at e; subst e
    exact ⟨d, rfl, h2⟩
  | d :: l, _, i + 1, _, h, e => by
    obtain ⟨x, r, rfl, _, h3⟩ := h.uncons
    simpa using reps.getV (i := i) h3 (by simpa using e)
theorem reps.append : ∀ {l l' : List D} {xs ys : List V}, reps S io F l xs → reps S io F l' ys → reps S io F (l ++ l') (xs ++ ys)
  | [], _, _, _, h, h' => by rw [h.eq_nil]; exact h'
  | d :: l, _, _, _, h, h' => by
    obtain ⟨x, r, rfl, h2, h3⟩ := h.uncons
    exact .cons h2 (reps.append h3 h')
theorem reps.take : ∀ {l : List D} {xs : List V} (n : Nat), reps S io F l xs → reps S io F (l.take n) (xs.take n)
  | _, _, 0, _ => by rw [List.take_zero, List.take_zero]; exact .nil
  | [], _, _ + 1, h => by rw [h.eq_nil]; exact .nil
  | d :: l, _, n + 1, h => by
    obtain ⟨x, r, rfl, h2, h3⟩ := h.uncons
    exact .cons h2 (reps.take n h3)
theorem reps.drop : ∀ {l : List D} {xs : List V} (n : Nat), reps S io F l xs → reps S io F (l.drop n) (xs.drop n)
  | _, _, 0, h => h
  | [], _, _ + 1, h => by rw [h.eq_nil]; exact .nil
  | d :: l, _, n + 1, h => by
    obtain ⟨x, r, rfl, _, h3⟩ := h.uncons
    exact reps.drop n h3
theorem reps.set {d : D} {x : V} (hd : rep S io F d x) : ∀ {l : List D} {xs : List V} (i : Nat), reps S io F l xs → reps S io F (l.set i d) (xs.set i x)
  | [], _, _, h => by rw [h.eq_nil]; exact .nil
  | e :: l, _, 0, h => by
    obtain ⟨y, r, rfl, h2, h3⟩ := h.uncons
    exact .cons hd h3
  | e :: l, _, i + 1, h => by
    obtain ⟨y, r, rfl, h2, h3⟩ := h.uncons
    exact .cons h2 (reps.set hd i h3)
theorem reps.reverse : ∀ {l : List D} {xs : List V}, reps S io F l xs → reps S io F l.reverse xs.reverse
  | [], _, h => by rw [h.eq_nil]; exact .nil
  | d :: l, _, h => by
    obtain ⟨x, r, rfl, h2, h3⟩ := h.uncons
    rw [List.reverse_cons, List.reverse_cons]
    exact (reps.reverse h3).append (.cons h2 .nil)
end
/-! ### a state -/
def cellOk (S : Sx) (c : Cf) (a : Addr) : M → Prop
  | .lst l => c.F a = none ∧ ∃ xs, c.H a = some (.lst xs) ∧ reps S c.io c.F l xs
  | .dct ks l => c.F a = none ∧ ∃ kvs, c.H a = some (.dK kvs) ∧ kvs.map (·.1) = ks ∧ reps S c.io c.F l (kvs.map (·.2))
  | .obj x ns l => c.F a = none ∧ ∃ dx fs, c.H a = some (.ins (S.A x) dx fs) ∧ fs.map (·.1) = ns ∧ reps S c.io c.F l (fs.map (·.2))
  | .dead => ∃ o, c.H a = some o
structure SI (S : Sx) (c : Cf) (μ : List M) : Prop where
  ex : Ex c.F c.H
  len : c.io.length = μ.length
  nd : c.io.Nodup
  cell : ∀ (i : Nat) (a : Addr) (m : M), c.io[i]? = some a → μ[i]? = some m → cellOk S c a m
  cls : ∀ (i : Nat) (x : Str) (ns : List Str) (l : List D), μ[i]? = some (.obj x ns l) → x ∈ S.cls
theorem cellOk.there {S : Sx} {c : Cf} {a : Addr} {m : M} (h : cellOk S c a m) : ∃ o, c.H a = some o := by
  cases m with
  | lst l => obtain ⟨_, xs, h, _⟩ := h; exact ⟨_, h⟩
  | dct ks l => obtain ⟨_, xs, h, _⟩ := h; exact ⟨_, h⟩
  | obj x ns l => obtain ⟨_, dx, fs, h, _⟩ := h; exact ⟨_, h⟩
  | dead => exact h
theorem SI.there {S : Sx} {c : Cf} {μ : List M} (h : SI S c μ) {a : Addr} (m : a ∈ c.io) : ∃ o, c.H a = some o := by
  obtain ⟨i, hi, e⟩ := List.getElem_of_mem m
  have h1 : c.io[i]? = some a := by rw [List.getElem?_eq_getElem hi, e]
  have hm : i < μ.length := by rw [← h.len]; exact hi
  exact (h.cell i a _ h1 (List.getElem?_eq_getElem hm)).there
/-- a state behind another one -/
structure Step (S : Sx) (c c' : Cf) : Prop where
  pre : c.io <+: c'.io
  nd : c'.io.Nodup
  exF : Ex c.F c'.F
  frz : ∀ p, c.H p ≠ none → c.F p = none → c'.F p ≠ none → ∃ i, S.n0 ≤ i ∧ c.io[i]? = some p
  keep : ∀ p o, c.H p = some o → p ∉ c.io → c'.H p = some o
  new : ∀ p, p ∈ c'.io → p ∉ c.io → c.H p = none
  som : ∀ p, c.H p ≠ none → c'.H p ≠ none
theorem Step.rfl' {S : Sx} {c : Cf} (n : c.io.Nodup) : Step S c c :=
  ⟨List.prefix_refl _, n, Ex.refl _, fun _ _ h h' => absurd h h', fun _ _ h _ => h, fun _ h h' => absurd h h', fun _ h => h⟩
theorem SI.step {S : Sx} {c : Cf} {μ : List M} (I : SI S c μ) : Step S c c := Step.rfl' I.nd
theorem nodup_at {l : List Addr} (n : l.Nodup) {i j : Nat} {p : Addr} (h1 : l[i]? = some p) (h2 : l[j]? = some p) : i = j := by
  obtain ⟨a, b⟩ := List.getElem?_eq_some_iff.mp h1
  obtain ⟨c, d⟩ := List.getElem?_eq_some_iff.mp h2
  exact (List.getElem_inj n).mp (b.trans d.symm)
theorem Step.trans {S : Sx} {c c1 c2 : Cf} (a : Step S c c1) (b : Step S c1 c2) : Step S c c2 := by
  refine ⟨a.pre.trans b.pre, b.nd, a.exF.trans b.exF, fun p h1 h2 h3 => ?_, fun p o h1 h2 => ?_, fun p h1 h2 => ?_, fun p h => b.som p (a.som p h)⟩
  · cases e : c1.F p with
    | some o => exact a.frz p h1 h2 (by rw [e]; exact fun z => nomatch z)
    | none =>
      obtain ⟨i, hi, e1⟩ := b.frz p (a.som p h1) e h3
      by_cases hm : p ∈ c.io
      · obtain ⟨z, ez⟩ := a.pre
        obtain ⟨j, hj, ej⟩ := List.getElem_of_mem hm
        have e2 : c1.io[j]? = some p := by
          rw [← ez, List.getElem?_append_left hj, List.getElem?_eq_getElem hj, ej]
        have e3 := nodup_at a.nd e1 e2
        subst e3
        exact ⟨i, hi, by rw [List.getElem?_eq_getElem hj, ej]⟩
      · exact absurd (a.new p (List.mem_of_getElem? e1) hm) h1
  · refine b.keep p o (a.keep p o h1 h2) fun hm => ?_
    have := a.new p hm h2
    rw [h1] at this; cases this
  · by_cases hm : p ∈ c1.io
    · exact a.new p hm h2
    · have := b.new p h1 hm
      cases e : c.H p with
      | none => rfl
      | some o => exact absurd this (a.som p (by rw [e]; exact fun z => nomatch z))
theorem Step.rep {S : Sx} {c c' : Cf} (s : Step S c c') {d : D} {v : V} (h : rep S c.io c.F d v) : rep S c'.io c'.F d v := rep.mono s.pre s.exF d h
theorem Step.reps {S : Sx} {c c' : Cf} (s : Step S c c') {l : List D} {xs : List V} (h : reps S c.io c.F l xs) : reps S c'.io c'.F l xs := reps.mono s.pre s.exF l h
/-- a new object that never changes -/
theorem SI.fresh {S : Sx} {c : Cf} {μ : List M} (I : SI S c μ) {p : Addr} {o : HO} (hp : c.H p = none) :
    SI S ⟨c.io, upd c.F p o, upd c.H p o⟩ μ ∧ Step S c ⟨c.io, upd c.F p o, upd c.H p o⟩ := by
  have fp : c.F p = none := I.ex.back hp
  have ne : ∀ a, a ∈ c.io → a ≠ p := fun a m z => by
    obtain ⟨o, h⟩ := I.there m
    rw [z, hp] at h; cases h
  refine ⟨⟨I.ex.upd, I.len, I.nd, fun i a m h1 h2 => ?_, I.cls⟩, ⟨List.prefix_refl _, I.nd, Ex.new fp, fun q h1 h2 h3 => ?_, fun q u h1 h2 => ?_, fun q h1 h2 => absurd h1 h2, fun q h => ?_⟩⟩
  · have nep := ne a (List.mem_of_getElem? h1)
    have k := I.cell i a m h1 h2
    cases m with
    | lst l =>
      obtain ⟨k1, xs, k2, k3⟩ := k
      exact ⟨(upd_ne nep).trans k1, xs, (upd_ne nep).trans k2, reps.mono (List.prefix_refl _) (Ex.new fp) l k3⟩
    | dct ks l =>
      obtain ⟨k1, xs, k2, k3, k4⟩ := k
      exact ⟨(upd_ne nep).trans k1, xs, (upd_ne nep).trans k2, k3, reps.mono (List.prefix_refl _) (Ex.new fp) l k4⟩
    | obj x ns l =>
      obtain ⟨k1, dx, fs, k2, k3, k4⟩ := k
      exact ⟨(upd_ne nep).trans k1, dx, fs, (upd_ne nep).trans k2, k3, reps.mono (List.prefix_refl _) (Ex.new fp) l k4⟩
    | dead =>
      obtain ⟨u, k⟩ := k
      exact ⟨u, (upd_ne nep).trans k⟩
  · by_cases e : q = p
    · rw [e] at h1; exact absurd hp h1
    · have h3' : upd c.F p o q ≠ none := h3
      rw [upd_ne e] at h3'
      exact absurd h2 h3'
  · exact Ex.new hp q u h1
  · by_cases e : q = p
    · rw [e] at h; exact absurd hp h
    · show upd c.H p o q ≠ none
      rw [upd_ne e]; exact h
/-- a new cell -/
theorem SI.alloc {S : Sx} {c : Cf} {μ : List M} (I : SI S c μ) {p : Addr} {o : HO} {m : M} (hp : c.H p = none)
    (hm : ∀ io, c.io <+: io → cellOk S ⟨io, c.F, upd c.H p o⟩ p m) (hcl : ∀ (x : Str) (ns : List Str) (l : List D), m = .obj x ns l → x ∈ S.cls := by intro _ _ _ e; cases e) :
    SI S ⟨c.io ++ [p], c.F, upd c.H p o⟩ (μ ++ [m]) ∧ Step S c ⟨c.io ++ [p], c.F, upd c.H p o⟩ := by
  have fp : c.F p = none := I.ex.back hp
  have ne : ∀ a, a ∈ c.io → a ≠ p := fun a m z => by
    obtain ⟨o, h⟩ := I.there m
    rw [z, hp] at h; cases h
  have pre : c.io <+: c.io ++ [p] := List.prefix_append _ _
  have nd : (c.io ++ [p]).Nodup := List.nodup_append.mpr ⟨I.nd, by simp, fun a ha b hb => by
    have : b = p := by simpa using hb
    rw [this]; exact ne a ha⟩
  refine ⟨⟨I.ex.updR fp, by rw [List.length_append, List.length_append, I.len]; rfl, nd, fun i a m' h1 h2 => ?_, fun i x ns l h => ?_⟩, ⟨pre, nd, Ex.refl _, fun q h1 h2 h3 => absurd h2 h3, fun q u h1 h2 => ?_, fun q h1 h2 => ?_, fun q h => ?_⟩⟩
  · by_cases hi : i < c.io.length
    · have h1' : c.io[i]? = some a := by
        have h1 : (c.io ++ [p])[i]? = some a := h1
        rw [List.getElem?_append_left hi] at h1; exact h1
      have h2' : μ[i]? = some m' := by
        rw [List.getElem?_append_left (by rw [← I.len]; exact hi)] at h2; exact h2
      have nep := ne a (List.mem_of_getElem? h1')
      have k := I.cell i a m' h1' h2'
      cases m' with
      | lst l =>
        obtain ⟨k1, xs, k2, k3⟩ := k
        exact ⟨k1, xs, (upd_ne nep).trans k2, reps.mono pre (Ex.refl _) l k3⟩
      | dct ks l =>
        obtain ⟨k1, xs, k2, k3, k4⟩ := k
        exact ⟨k1, xs, (upd_ne nep).trans k2, k3, reps.mono pre (Ex.refl _) l k4⟩
      | obj x ns l =>
        obtain ⟨k1, dx, fs, k2, k3, k4⟩ := k
        exact ⟨k1, dx, fs, (upd_ne nep).trans k2, k3, reps.mono pre (Ex.refl _) l k4⟩
      | dead =>
        obtain ⟨u, k⟩ := k
        exact ⟨u, (upd_ne nep).trans k⟩
    · have h1 : (c.io ++ [p])[i]? = some a := h1
      have hl : i < (c.io ++ [p]).length := (List.getElem?_eq_some_iff.mp h1).1
      rw [List.length_append] at hl
      have ei : i = c.io.length := by
        have : [p].length = 1 := rfl
        omega
      have e1 : a = p := by
        rw [ei, List.getElem?_append_right (Nat.le_refl _), Nat.sub_self] at h1
        simpa using h1.symm
      have e2 : m' = m := by
        rw [ei, I.len, List.getElem?_append_right (Nat.le_refl _), Nat.sub_self] at h2
        simpa using h2.symm
      rw [e1, e2]
      exact hm _ pre
  · by_cases hi : i < μ.length
    · rw [List.getElem?_append_left hi] at h
      exact I.cls i x ns l h
    · have hl : i < (μ ++ [m]).length := (List.getElem?_eq_some_iff.mp h).1
      rw [List.length_append] at hl
      have ei : i = μ.length := by
        have : [m].length = 1 := rfl
        omega
      rw [ei, List.getElem?_append_right (Nat.le_refl _), Nat.sub_self] at h
      exact hcl x ns l (by simpa using h)
  · exact Ex.new hp q u h1
  · have : q = p := by
      rcases List.mem_append.mp (show q ∈ c.io ++ [p] from h1) with h | h
      · exact absurd h h2
      · simpa using h
    rw [this]; exact hp
  · by_cases e : q = p
    · rw [e] at h; exact absurd hp h
    · show upd c.H p o q ≠ none
      rw [upd_ne e]; exact h
/-- a cell is changed -/
theorem SI.write {S : Sx} {c : Cf} {μ : List M} (I : SI S c μ) {i : Nat} {p : Addr} {o : HO} {m : M} (hi : c.io[i]? = some p) (fp : c.F p = none)
    (hm : cellOk S ⟨c.io, c.F, upd c.H p o⟩ p m) (hcl : ∀ (x : Str) (ns : List Str) (l : List D), m = .obj x ns l → x ∈ S.cls := by intro _ _ _ e; cases e) : SI S ⟨c.io, c.F, upd c.H p o⟩ (μ.set i m) ∧ Step S c ⟨c.io, c.F, upd c.H p o⟩ := by
  refine ⟨⟨I.ex.updR fp, by rw [List.length_set]; exact I.len, I.nd, fun j a m' h1 h2 => ?_, fun j x ns l h => ?_⟩, ⟨List.prefix_refl _, I.nd, Ex.refl _, fun q h1 h2 h3 => absurd h2 h3, fun q u h1 h2 => ?_, fun q h1 h2 => absurd h1 h2, fun q h => ?_⟩⟩
  · by_cases e : j = i
    · subst e
      have ea : a = p := by
        have h1 : c.io[j]? = some a := h1
        rw [hi] at h1; exact (Option.some.inj h1).symm
      have hl : j < μ.length := by rw [← I.len]; exact (List.getElem?_eq_some_iff.mp hi).1
      rw [List.getElem?_set_self hl] at h2
      rw [ea, ← Option.some.inj h2]; exact hm
    · rw [List.getElem?_set_ne (Ne.symm e)] at h2
      have nep : a ≠ p := fun z => by
        subst z
        exact e (nodup_at I.nd h1 hi)
      have k := I.cell j a m' h1 h2
      cases m' with
      | lst l =>
        obtain ⟨k1, xs, k2, k3⟩ := k
        exact ⟨k1, xs, (upd_ne nep).trans k2, k3⟩
      | dct ks l =>
        obtain ⟨k1, xs, k2, k3, k4⟩ := k
        exact ⟨k1, xs, (upd_ne nep).trans k2, k3, k4⟩
      | obj x ns l =>
        obtain ⟨k1, dx, fs, k2, k3, k4⟩ := k
        exact ⟨k1, dx, fs, (upd_ne nep).trans k2, k3, k4⟩
      | dead =>
        obtain ⟨u, k⟩ := k
        exact ⟨u, (upd_ne nep).trans k⟩
  · by_cases e : j = i
    · subst e
      have hl : j < μ.length := by rw [← I.len]; exact (List.getElem?_eq_some_iff.mp hi).1
      rw [List.getElem?_set_self hl] at h
      exact hcl x ns l (Option.some.inj h)
    · rw [List.getElem?_set_ne (Ne.symm e)] at h
      exact I.cls j x ns l h
  · have ne : q ≠ p := fun z => h2 (by rw [z]; exact List.mem_of_getElem? hi)
    exact (upd_ne ne).trans h1
  · show upd c.H p o q ≠ none
    by_cases e : q = p
    · rw [e, upd_same]; exact fun z => nomatch z
    · rw [upd_ne e]; exact h
end DL
namespace DL
open PySem PySem.Spec PyProof.Rows L2
abbrev St := L2.St
abbrev En := List (Option D)
/-- an expression's outcome -/
inductive Out (α : Type) where
  | ok (a : α) (μ : List M) | ex (c : Str) (ns : List Str) (l : List D) (μ : List M) | stuck
/-- a statement's -/
inductive SO where
  | nx (e : En) (μ : List M) | rt (d : D) (μ : List M) | bk (e : En) (μ : List M) | ct (e : En) (μ : List M) | ex (c : Str) (ns : List Str) (l : List D) (e : En) (μ : List M) | stuck
@[simp] def Out.bind {α β : Type} : Out α → (α → List M → Out β) → Out β
  | .ok a μ, f => f a μ
  | .ex c ns l μ, _ => .ex c ns l μ
  | .stuck, _ => .stuck
@[simp] def Out.bindS {α : Type} : Out α → En → (α → List M → SO) → SO
  | .ok a μ, _, f => f a μ
  | .ex c ns l μ, e, _ => .ex c ns l e μ
  | .stuck, _, _ => .stuck
@[simp] def SO.bind : SO → (En → List M → SO) → SO
  | .nx e μ, f => f e μ
  | .rt d μ, _ => .rt d μ
  | .bk e μ, _ => .bk e μ
  | .ct e μ, _ => .ct e μ
  | .ex c ns l e μ, _ => .ex c ns l e μ
  | .stuck, _ => .stuck
abbrev DE := En → List M → Out D
abbrev DT := En → List M → Out Bool
abbrev DA := En → List M → Out (List D)
abbrev DS := En → List M → SO
structure EnvOk (S : Sx) (c : Cf) (env : En) (σ : St) : Prop where
  len : env.length = σ.length
  at_ : ∀ (i : Nat) (d : D), env[i]? = some (some d) → ∃ v, σ[i]? = some (some v) ∧ rep S c.io c.F d v
theorem EnvOk.step {S : Sx} {c c' : Cf} {env : En} {σ : St} (s : Step S c c') (h : EnvOk S c env σ) : EnvOk S c' env σ :=
  ⟨h.len, fun i d e => by
    obtain ⟨v, h1, h2⟩ := h.at_ i d e
    exact ⟨v, h1, s.rep h2⟩⟩
theorem EnvOk.set {S : Sx} {c : Cf} {env : En} {σ : St} {d : D} {v : V} (h : EnvOk S c env σ) (r : rep S c.io c.F d v) (i : Nat) : EnvOk S c (env.set i (some d)) (σ.set i (some v)) :=
  ⟨by rw [List.length_set, List.length_set]; exact h.len, fun j e q => by
    by_cases z : j = i
    · subst z
      have hl : j < env.length := by
        have := (List.getElem?_eq_some_iff.mp q).1
        rwa [List.length_set] at this
      rw [List.getElem?_set_self hl] at q
      have : e = d := (Option.some.inj (Option.some.inj q)).symm
      subst this
      exact ⟨v, by rw [List.getElem?_set_self (by rw [← h.len]; exact hl)], r⟩
    · rw [List.getElem?_set_ne (Ne.symm z)] at q
      obtain ⟨u, h1, h2⟩ := h.at_ j e q
      exact ⟨u, by rw [List.getElem?_set_ne (Ne.symm z)]; exact h1, h2⟩⟩
theorem EnvOk.del {S : Sx} {c : Cf} {env : En} {σ : St} (h : EnvOk S c env σ) (i : Nat) : EnvOk S c (env.set i none) (σ.set i none) :=
  ⟨by rw [List.length_set, List.length_set]; exact h.len, fun j e q => by
    by_cases z : j = i
    · subst z
      have hl : j < env.length := by
        have := (List.getElem?_eq_some_iff.mp q).1
        rwa [List.length_set] at this
      rw [List.getElem?_set_self hl] at q
      cases q
    · rw [List.getElem?_set_ne (Ne.symm z)] at q
      obtain ⟨u, h1, h2⟩ := h.at_ j e q
      exact ⟨u, by rw [List.getElem?_set_ne (Ne.symm z)]; exact h1, h2⟩⟩
/-- an exception's own dict -/
def xrep (S : Sx) (c : Cf) (ns : List Str) (l : List D) (dd : Option Addr) : Prop :=
  (ns = [] ∧ l = [] ∧ dd = none) ∨ ∃ a fs, dd = some a ∧ c.F a = some (.xd fs) ∧ fs.map (·.1) = ns ∧ reps S c.io c.F l (fs.map (·.2))
def XQ (S : Sx) (W : WX) (σ : St) (c : Cf) (x : Str) (ns : List Str) (l : List D) (μ : List M) : Prop :=
  ∀ dd c', Step S c c' → SI S c' μ → xrep S c' ns l dd → W (.ref (S.A x)) dd σ c'.H
def EQ (S : Sx) (W : WX) (σ : St) (c : Cf) (Q : VK) : Out D → Prop
  | .ok d μ => ∀ v c', Step S c c' → SI S c' μ → rep S c'.io c'.F d v → Q v c'.H
  | .ex x ns l μ => XQ S W σ c x ns l μ
  | .stuck => False
def TQ (S : Sx) (W : WX) (σ : St) (c : Cf) (Q : Bool → Hp → Prop) : Out Bool → Prop
  | .ok b μ => ∀ c', Step S c c' → SI S c' μ → Q b c'.H
  | .ex x ns l μ => XQ S W σ c x ns l μ
  | .stuck => False
def AQ (S : Sx) (W : WX) (σ : St) (c : Cf) (Q : List V → Hp → Prop) : Out (List D) → Prop
  | .ok l μ => ∀ vs c', Step S c c' → SI S c' μ → reps S c'.io c'.F l vs → Q vs c'.H
  | .ex x ns l μ => XQ S W σ c x ns l μ
  | .stuck => False
def SQ (S : Sx) (W : WX) (c : Cf) (En : Ends) : SO → Prop
  | .nx e μ => ∀ σ' c', Step S c c' → SI S c' μ → EnvOk S c' e σ' → En.nx σ' c'.H
  | .bk e μ => ∀ σ' c', Step S c c' → SI S c' μ → EnvOk S c' e σ' → En.bk σ' c'.H
  | .ct e μ => ∀ σ' c', Step S c c' → SI S c' μ → EnvOk S c' e σ' → En.ct σ' c'.H
  | .rt d μ => ∀ v c', Step S c c' → SI S c' μ → rep S c'.io c'.F d v → En.rt v c'.H
  | .ex x ns l e μ => ∀ dd σ' c', Step S c c' → SI S c' μ → EnvOk S c' e σ' → xrep S c' ns l dd → W (.ref (S.A x)) dd σ' c'.H
  | .stuck => False
section
variable {S : Sx} {W : WX} {σ : St} {c c1 : Cf}
theorem XQ.step {x : Str} {ns : List Str} {l : List D} {μ : List M} (s : Step S c c1) (h : XQ S W σ c x ns l μ) : XQ S W σ c1 x ns l μ := fun dd c' s' => h dd c' (s.trans s')
theorem EQ.step {Q : VK} (s : Step S c c1) : ∀ {o : Out D}, EQ S W σ c Q o → EQ S W σ c1 Q o
  | .ok _ _, h => fun v c' s' => h v c' (s.trans s')
  | .ex _ _ _ _, h => XQ.step s h
  | .stuck, h => h
theorem TQ.step {Q : Bool → Hp → Prop} (s : Step S c c1) : ∀ {o : Out Bool}, TQ S W σ c Q o → TQ S W σ c1 Q o
  | .ok _ _, h => fun c' s' => h c' (s.trans s')
  | .ex _ _ _ _, h => XQ.step s h
  | .stuck, h => h
theorem AQ.step {Q : List V → Hp → Prop} (s : Step S c c1) : ∀ {o : Out (List D)}, AQ S W σ c Q o → AQ S W σ c1 Q o
  | .ok _ _, h => fun v c' s' => h v c' (s.trans s')
  | .ex _ _ _ _, h => XQ.step s h
  | .stuck, h => h
theorem SQ.step {E : Ends} (s : Step S c c1) : ∀ {o : SO}, SQ S W c E o → SQ S W c1 E o
  | .nx _ _, h => fun v c' s' => h v c' (s.trans s')
  | .bk _ _, h => fun v c' s' => h v c' (s.trans s')
  | .ct _ _, h => fun v c' s' => h v c' (s.trans s')
  | .rt _ _, h => fun v c' s' => h v c' (s.trans s')
  | .ex _ _ _ _ _, h => fun d v c' s' => h d v c' (s.trans s')
  | .stuck, h => h
end
structure PDE (X : Cx) (S : Sx) (W : WX) (e : Expr) (d : DE) : Prop where
  ex : ∃ t, PE X e t ∧ ∀ env σ c μ Q, SI S c μ → EnvOk S c env σ → EQ S W σ c Q (d env μ) → t σ c.H Q
structure PDT (X : Cx) (S : Sx) (W : WX) (e : Expr) (d : DT) : Prop where
  ex : ∃ t, PT X e t ∧ ∀ env σ c μ Q, SI S c μ → EnvOk S c env σ → TQ S W σ c Q (d env μ) → t σ c.H Q
structure PDW (X : Cx) (S : Sx) (W : WX) (e : Expr) (d : DT) : Prop where
  ex : ∃ t, PW X e t ∧ ∀ env σ c μ Q, SI S c μ → EnvOk S c env σ → TQ S W σ c Q (d env μ) → t σ c.H Q
structure PDA (X : Cx) (S : Sx) (W : WX) (es : List Expr) (d : DA) : Prop where
  ex : ∃ t, PA X es t ∧ ∀ env σ c μ Q, SI S c μ → EnvOk S c env σ → AQ S W σ c Q (d env μ) → t σ c.H Q
structure PDS (X : Cx) (S : Sx) (W : WX) (st : Stmt) (d : DS) : Prop where
  ex : ∃ t, PS X st t ∧ ∀ env σ c μ E, SI S c μ → EnvOk S c env σ → SQ S W c E (d env μ) → t E σ c.H
structure PDSs (X : Cx) (S : Sx) (W : WX) (st : List Stmt) (d : DS) : Prop where
  ex : ∃ t, PSs X st t ∧ ∀ env σ c μ E, SI S c μ → EnvOk S c env σ → SQ S W c E (d env μ) → t E σ c.H
section
variable {X : Cx} {S : Sx} {W : WX} {a b e : Expr} {es : List Expr} {da db d : DE} {pos : Pos} {k : Nat}
/-! ### the binds -/
theorem bindE {σ : St} {c : Cf} {Q : VK} {t : TE} {R : V → Hp → Prop} {o : Out D} {f : D → List M → Out D}
    (h : ∀ Q, EQ S W σ c Q o → t σ c.H Q) (k : EQ S W σ c Q (o.bind f)) (g : ∀ x μ v c', Step S c c' → SI S c' μ → rep S c'.io c'.F x v → EQ S W σ c' Q (f x μ) → R v c'.H) : t σ c.H R := by
  refine h _ ?_
  cases o with
  | ok x μ => exact fun v c' s I r => g x μ v c' s I r (EQ.step s k)
  | ex x ns l μ => exact k
  | stuck => exact k
theorem bindET {σ : St} {c : Cf} {Q : Bool → Hp → Prop} {t : TE} {R : V → Hp → Prop} {o : Out D} {f : D → List M → Out Bool}
    (h : ∀ Q, EQ S W σ c Q o → t σ c.H Q) (k : TQ S W σ c Q (o.bind f)) (g : ∀ x μ v c', Step S c c' → SI S c' μ → rep S c'.io c'.F x v → TQ S W σ c' Q (f x μ) → R v c'.H) : t σ c.H R := by
  refine h _ ?_
  cases o with
  | ok x μ => exact fun v c' s I r => g x μ v c' s I r (TQ.step s k)
  | ex x ns l μ => exact k
  | stuck => exact k
theorem bindEA {σ : St} {c : Cf} {Q : List V → Hp → Prop} {t : TE} {R : V → Hp → Prop} {o : Out D} {f : D → List M → Out (List D)}
    (h : ∀ Q, EQ S W σ c Q o → t σ c.H Q) (k : AQ S W σ c Q (o.bind f)) (g : ∀ x μ v c', Step S c c' → SI S c' μ → rep S c'.io c'.F x v → AQ S W σ c' Q (f x μ) → R v c'.H) : t σ c.H R := by
  refine h _ ?_
  cases o with
  | ok x μ => exact fun v c' s I r => g x μ v c' s I r (AQ.step s k)
  | ex x ns l μ => exact k
  | stuck => exact k
theorem bindAE {σ : St} {c : Cf} {Q : VK} {t : TA} {R : List V → Hp → Prop} {o : Out (List D)} {f : List D → List M → Out D}
    (h : ∀ Q, AQ S W σ c Q o → t σ c.H Q) (k : EQ S W σ c Q (o.bind f)) (g : ∀ x μ v c', Step S c c' → SI S c' μ → reps S c'.io c'.F x v → EQ S W σ c' Q (f x μ) → R v c'.H) : t σ c.H R := by
  refine h _ ?_
  cases o with
  | ok x μ => exact fun v c' s I r => g x μ v c' s I r (EQ.step s k)
  | ex x ns l μ => exact k
  | stuck => exact k
theorem bindAA {σ : St} {c : Cf} {Q : List V → Hp → Prop} {t : TA} {R : List V → Hp → Prop} {o : Out (List D)} {f : List D → List M → Out (List D)}
    (h : ∀ Q, AQ S W σ c Q o → t σ c.H Q) (k : AQ S W σ c Q (o.bind f)) (g : ∀ x μ v c', Step S c c' → SI S c' μ → reps S c'.io c'.F x v → AQ S W σ c' Q (f x μ) → R v c'.H) : t σ c.H R := by
  refine h _ ?_
  cases o with
  | ok x μ => exact fun v c' s I r => g x μ v c' s I r (AQ.step s k)
  | ex x ns l μ => exact k
  | stuck => exact k
theorem bindTT {σ : St} {c : Cf} {Q : Bool → Hp → Prop} {t : TT} {R : Bool → Hp → Prop} {o : Out Bool} {f : Bool → List M → Out Bool}
    (h : ∀ Q, TQ S W σ c Q o → t σ c.H Q) (k : TQ S W σ c Q (o.bind f)) (g : ∀ x μ c', Step S c c' → SI S c' μ → TQ S W σ c' Q (f x μ) → R x c'.H) : t σ c.H R := by
  refine h _ ?_
  cases o with
  | ok x μ => exact fun c' s I => g x μ c' s I (TQ.step s k)
  | ex x ns l μ => exact k
  | stuck => exact k
theorem bindES {σ : St} {c : Cf} {E : Ends} {env : En} {t : TE} {R : V → Hp → Prop} {o : Out D} {f : D → List M → SO}
    (en : EnvOk S c env σ) (h : ∀ Q, EQ S W σ c Q o → t σ c.H Q) (k : SQ S W c E (o.bindS env f)) (g : ∀ x μ v c', Step S c c' → SI S c' μ → rep S c'.io c'.F x v → SQ S W c' E (f x μ) → R v c'.H) : t σ c.H R := by
  refine h _ ?_
  cases o with
  | ok x μ => exact fun v c' s I r => g x μ v c' s I r (SQ.step s k)
  | ex x ns l μ => exact fun dd c' s I r => k dd σ c' s I (en.step s) r
  | stuck => exact k
theorem bindTS {σ : St} {c : Cf} {E : Ends} {env : En} {t : TT} {R : Bool → Hp → Prop} {o : Out Bool} {f : Bool → List M → SO}
    (en : EnvOk S c env σ) (h : ∀ Q, TQ S W σ c Q o → t σ c.H Q) (k : SQ S W c E (o.bindS env f)) (g : ∀ x μ c', Step S c c' → SI S c' μ → SQ S W c' E (f x μ) → R x c'.H) : t σ c.H R := by
  refine h _ ?_
  cases o with
  | ok x μ => exact fun c' s I => g x μ c' s I (SQ.step s k)
  | ex x ns l μ => exact fun dd c' s I r => k dd σ c' s I (en.step s) r
  | stuck => exact k
/-! ### names, constants -/
def dVar (i : Nat) : DE := fun env μ => match env[i]? with
  | some (some d) => .ok d μ
  | _ => .stuck
@[simp] def dC (d : D) : DE := fun _ μ => .ok d μ
theorem of_tC {v : V} {x : D} (h : PE X e (tC v)) (r : ∀ io F, rep S io F x v) : PDE X S W e (dC x) :=
  ⟨_, h, fun env σ c μ Q I en q => q v c I.step I (r _ _)⟩
theorem pd_var {i : Nat} (h : PE X e (tVar i)) : PDE X S W e (dVar i) := by
  refine ⟨_, h, fun env σ c μ Q I en q => ?_⟩
  unfold dVar at q
  cases e1 : env[i]? with
  | none => rw [e1] at q; exact q.elim
  | some o =>
    rw [e1] at q
    cases o with
    | none => exact q.elim
    | some d =>
      obtain ⟨v, h1, h2⟩ := en.at_ i d e1
      exact ⟨v, h1, q v c I.step I h2⟩
theorem pd_int {i : Int} {j : Nat} : PDE X S W (.Constant (.int i) j pos) (dC (.int i)) := of_tC pe_int fun _ _ => by unfold rep; rfl
theorem pd_str {x : Str} {j : Nat} (h : okS x = true := by decide +kernel) : PDE X S W (.Constant (.str x) j pos) (dC (.str x)) := of_tC pe_str fun _ _ => by unfold rep; exact ⟨rfl, h⟩
theorem pd_bl {b : Bool} {j : Nat} : PDE X S W (.Constant (.bool b) j pos) (dC (.bl b)) := of_tC pe_bl fun _ _ => by unfold rep; rfl
theorem pd_non {j : Nat} : PDE X S W (.Constant .none j pos) (dC .non) := of_tC pe_non fun _ _ => by unfold rep; rfl
end
end DL
namespace DL
open PySem PySem.Spec PyProof.Rows L2
/-! ### what is read of a datum -/
def lstOf (μ : List M) : D → Option (List D)
  | .lst l => some l
  | .cel i => match μ[i]? with
    | some (.lst l) => some l
    | _ => none
  | _ => none
def seqOf (μ : List M) : D → Option (List D)
  | .tup l => some l
  | .lst l => some l
  | .cel i => match μ[i]? with
    | some (.lst l) => some l
    | _ => none
  | .scr ns => some (ns.map D.int)
  | _ => none
section
variable {S : Sx} {c : Cf} {μ : List M} {d : D} {v : V} {l : List D}
theorem rep_int {io : List Addr} {F : Hp} {i : Int} : rep S io F (.int i) v ↔ v = .int i := by unfold rep; exact Iff.rfl
theorem rep_bl {io : List Addr} {F : Hp} {i : Bool} : rep S io F (.bl i) v ↔ v = .bl i := by unfold rep; exact Iff.rfl
theorem rep_non {io : List Addr} {F : Hp} : rep S io F .non v ↔ v = .non := by unfold rep; exact Iff.rfl
theorem rep_str {io : List Addr} {F : Hp} {x : Str} : rep S io F (.str x) v ↔ v = .str x ∧ okS x = true := by unfold rep; exact Iff.rfl
theorem rep_ty {io : List Addr} {F : Hp} {x : String} : rep S io F (.ty x) v ↔ v = .ty x := by unfold rep; exact Iff.rfl
theorem rep_glo {io : List Addr} {F : Hp} {x : Str} : rep S io F (.glo x) v ↔ v = .ref (S.A x) := by unfold rep; exact Iff.rfl
theorem reps_ints {io : List Addr} {F : Hp} : ∀ (ns : List Int), reps S io F (ns.map D.int) (ns.map V.int)
  | [] => .nil
  | n :: ns => .cons (rep_int.mpr rfl) (reps_ints ns)
theorem lst_at (I : SI S c μ) (r : rep S c.io c.F d v) (h : lstOf μ d = some l) : ∃ a xs, v = .ref a ∧ c.H a = some (.lst xs) ∧ reps S c.io c.F l xs := by
  cases d with
  | lst l' =>
    unfold rep at r
    obtain ⟨a, xs, h1, h2, h3⟩ := r
    cases (show some l' = some l from h)
    exact ⟨a, xs, h1, I.ex _ _ h2, h3⟩
  | cel i =>
    unfold rep at r
    obtain ⟨a, h1, h2⟩ := r
    dsimp only [lstOf] at h
    cases e : μ[i]? with
    | none => rw [e] at h; cases h
    | some m =>
      rw [e] at h
      cases m with
      | lst l' =>
        cases (show some l' = some l from h)
        obtain ⟨_, xs, k2, k3⟩ := I.cell i a _ h2 e
        exact ⟨a, xs, h1, k2, k3⟩
      | _ => cases h
  | _ => cases h
theorem seq_at (I : SI S c μ) (r : rep S c.io c.F d v) (h : seqOf μ d = some l) : ∃ a xs, v = .ref a ∧ (SqL S.K c.H a xs ∨ SqT S.K c.H a xs) ∧ reps S c.io c.F l xs := by
  cases d with
  | tup l' =>
    unfold rep at r
    obtain ⟨a, xs, h1, h2, h3⟩ := r
    cases (show some l' = some l from h)
    exact ⟨a, xs, h1, Or.inr (ex_t I.ex h2), h3⟩
  | lst l' =>
    obtain ⟨a, xs, h1, h2, h3⟩ := lst_at I r (show lstOf μ (.lst l') = some l from h)
    exact ⟨a, xs, h1, Or.inl (sq_of h2), h3⟩
  | cel i =>
    obtain ⟨a, xs, h1, h2, h3⟩ := lst_at I r (show lstOf μ (.cel i) = some l from h)
    exact ⟨a, xs, h1, Or.inl (sq_of h2), h3⟩
  | scr ns =>
    unfold rep at r
    obtain ⟨a, h1, h2⟩ := r
    cases (show some (ns.map D.int) = some l from h)
    exact ⟨a, _, h1, Or.inl (ex_l I.ex h2), reps_ints ns⟩
  | _ => cases h
/-- a new list, a new tuple -/
theorem new_lst {xs : List V} {Q : VK} {p : Addr} (I : SI S c μ) (r : reps S c.io c.F l xs) (k : ∀ v c', Step S c c' → SI S c' μ → rep S c'.io c'.F (.lst l) v → Q v c'.H) (hp : c.H p = none) : Q (.ref p) (upd c.H p (.lst xs)) := by
  obtain ⟨I', s⟩ := I.fresh (o := .lst xs) hp
  refine k _ _ s I' ?_
  unfold rep
  exact ⟨p, xs, rfl, upd_same, s.reps r⟩
theorem new_tup {xs : List V} {Q : VK} {p : Addr} (I : SI S c μ) (r : reps S c.io c.F l xs) (k : ∀ v c', Step S c c' → SI S c' μ → rep S c'.io c'.F (.tup l) v → Q v c'.H) (hp : c.H p = none) : Q (.ref p) (upd c.H p (.tup xs)) := by
  obtain ⟨I', s⟩ := I.fresh (o := .tup xs) hp
  refine k _ _ s I' ?_
  unfold rep
  exact ⟨p, xs, rfl, st_of upd_same, s.reps r⟩
end
def truth (μ : List M) : D → Option Bool
  | .non => some false
  | .bl b => some b
  | .int i => some (decide (i ≠ 0))
  | .str s => if s.length ≤ 100000 then some (decide (s.length ≠ 0)) else none
  | .tup l => some (!l.isEmpty)
  | .lst l => some (!l.isEmpty)
  | .cel i => match μ[i]? with
    | some (.lst l) => some (!l.isEmpty)
    | _ => none
  | _ => none
theorem sz_of {n : Nat} (h : n ≤ 100000) : n ≤ sizeLine := Nat.le_trans h (by decide)
theorem sz_lt {n : Nat} (h : n < 100000) : n < sizeLine := Nat.lt_of_lt_of_le h (by decide)
theorem isEmpty_reps {S : Sx} {io : List Addr} {F : Hp} : ∀ {l : List D} {xs : List V}, reps S io F l xs → (!l.isEmpty) = !xs.isEmpty
  | [], _, h => by rw [h.eq_nil]; rfl
  | d :: l, _, h => by
    obtain ⟨x, r, rfl, _⟩ := h.uncons
    rfl
theorem tru_at {S : Sx} {c : Cf} {μ : List M} {d : D} {v : V} {b : Bool} (I : SI S c μ) (r : rep S c.io c.F d v) (h : truth μ d = some b) : TruV S.K v c.H b := by
  cases d with
  | non => rw [rep_non.mp r]; exact (Option.some.inj h).symm
  | bl k => rw [rep_bl.mp r]; exact (Option.some.inj h).symm
  | int i =>
    rw [rep_int.mp r, ← (Option.some.inj h : decide (i ≠ 0) = b)]
    show decide (i ≠ 0) = (i != 0)
    rw [Bool.eq_iff_iff]; simp
  | str s =>
    rw [(rep_str.mp r).1]
    dsimp only [truth] at h
    split at h
    · rename_i hs
      rw [← (Option.some.inj h : decide (s.length ≠ 0) = b)]
      refine ⟨sz_of hs, ?_⟩
      rw [Bool.eq_iff_iff]
      simp only [decide_eq_true_eq, bne_iff_ne]
      omega
    · cases h
  | tup l =>
    obtain ⟨a, xs, rfl, h2, h3⟩ := (show ∃ a xs, v = .ref a ∧ SqT S.K c.F a xs ∧ reps S c.io c.F l xs from by unfold rep at r; exact r)
    rw [← (Option.some.inj h : (!l.isEmpty) = b)]
    exact Or.inr (Or.inl ⟨xs, ex_t I.ex h2, isEmpty_reps h3⟩)
  | lst l =>
    obtain ⟨a, xs, rfl, h2, h3⟩ := lst_at I r (show lstOf μ (.lst l) = some l from rfl)
    rw [← (Option.some.inj h : (!l.isEmpty) = b)]
    exact Or.inl ⟨xs, sq_of h2, isEmpty_reps h3⟩
  | cel i =>
    dsimp only [truth] at h
    cases e : μ[i]? with
    | none => rw [e] at h; cases h
    | some m =>
      rw [e] at h
      cases m with
      | lst l =>
        obtain ⟨a, xs, rfl, h2, h3⟩ := lst_at (l := l) I r (by dsimp only [lstOf]; rw [e])
        rw [← (Option.some.inj h : (!l.isEmpty) = b)]
        exact Or.inl ⟨xs, sq_of h2, isEmpty_reps h3⟩
      | _ => cases h
  | _ => cases h
/-! ### operators -/
structure PDO (X : Cx) (S : Sx) (f : Value → Value → Sem Value) (g : List M → D → D → Option D) : Prop where
  ex : ∃ r : R2, OpR X f r ∧ ∀ c μ x y d1 d2 d Q, SI S c μ → rep S c.io c.F d1 x → rep S c.io c.F d2 y → g μ d1 d2 = some d →
    (∀ v c', Step S c c' → SI S c' μ → rep S c'.io c'.F d v → Q v c'.H) → r x y c.H Q
def dOp (g : List M → D → D → Option D) (da db : DE) : DE := fun env μ => (da env μ).bind fun x μ1 => (db env μ1).bind fun y μ2 => match g μ2 x y with
  | some d => .ok d μ2
  | none => .stuck
section
variable {X : Cx} {S : Sx} {W : WX} {a b e : Expr} {es : List Expr} {da db d : DE} {pos : Pos} {k : Nat}
theorem op_run {r : R2} {g : List M → D → D → Option D} {ta tb : TE}
    (hr : ∀ c μ x y d1 d2 d Q, SI S c μ → rep S c.io c.F d1 x → rep S c.io c.F d2 y → g μ d1 d2 = some d → (∀ v c', Step S c c' → SI S c' μ → rep S c'.io c'.F d v → Q v c'.H) → r x y c.H Q)
    (ka : ∀ env σ c μ Q, SI S c μ → EnvOk S c env σ → EQ S W σ c Q (da env μ) → ta σ c.H Q) (kb : ∀ env σ c μ Q, SI S c μ → EnvOk S c env σ → EQ S W σ c Q (db env μ) → tb σ c.H Q) :
    ∀ env σ c μ Q, SI S c μ → EnvOk S c env σ → EQ S W σ c Q (dOp g da db env μ) → tOp r ta tb σ c.H Q := by
  intro env σ c μ Q I en q
  show ta σ c.H fun x H1 => tb σ H1 fun y H2 => r x y H2 Q
  refine bindE (fun Q' => ka env σ c μ Q' I en) q fun x μ1 v c1 s1 I1 r1 q1 => ?_
  refine bindE (fun Q' => kb env σ c1 μ1 Q' I1 (en.step s1)) q1 fun y μ2 u c2 s2 I2 r2 q2 => ?_
  cases e1 : g μ2 x y with
  | none => rw [e1] at q2; exact q2.elim
  | some d =>
    rw [e1] at q2
    exact hr c2 μ2 v u x y d Q I2 (s2.rep r1) r2 e1 q2
theorem pd_op {op : Operator} {g : List M → D → D → Option D} (o : PDO X S (binaryOp op) g) (ha : PDE X S W a da) (hb : PDE X S W b db) : PDE X S W (.BinOp a op b pos) (dOp g da db) := by
  obtain ⟨r, ho, hr⟩ := o.ex
  obtain ⟨ta, pa, ka⟩ := ha.ex
  obtain ⟨tb, pb, kb⟩ := hb.ex
  exact ⟨_, pe_op ho pa pb, op_run hr ka kb⟩
theorem pd_cmp {op : CmpOp} {g : List M → D → D → Option D} (o : PDO X S (compareOp op) g) (ha : PDE X S W a da) (hb : PDE X S W b db) (hm : behindInMarks op b = false) : PDE X S W (.Compare a [op] [b] pos) (dOp g da db) := by
  obtain ⟨r, ho, hr⟩ := o.ex
  obtain ⟨ta, pa, ka⟩ := ha.ex
  obtain ⟨tb, pb, kb⟩ := hb.ex
  exact ⟨_, pe_cmpR ho pa pb hm, op_run hr ka kb⟩
def mulSmall (i j : Int) : Bool := decide (i.natAbs < 9223372036854775808) || (decide (j.natAbs < 9223372036854775808) || decide (i.natAbs.log2 + j.natAbs.log2 < 1000000))
theorem intBits_lt {x : Int} (h : x.natAbs < 9223372036854775808) : Builtin.Int.intBits x ≤ 64 := by
  unfold Builtin.Int.intBits
  by_cases z : x.natAbs = 0
  · simp only [z]; split <;> decide
  · have : x.natAbs.log2 < 63 := (Nat.log2_lt z).mpr h
    split <;> omega
theorem mulSmall_ok {i j : Int} (h : mulSmall i j = true) : IntMulOk i j := by
  unfold mulSmall at h
  rcases Bool.or_eq_true_iff.mp h with h | h
  · exact IntMulOk.of_left (intBits_lt (of_decide_eq_true h))
  · rcases Bool.or_eq_true_iff.mp h with h | h
    · exact IntMulOk.of_right (intBits_lt (of_decide_eq_true h))
    · exact CMulW.ok (show CMulW i j from (of_decide_eq_true h : i.natAbs.log2 + j.natAbs.log2 < 1000000))
theorem op_mulOk {X : Cx} : OpR X (binaryOp .Mult) (rI IntMulOk fun i j => .int (i * j)) := opI fun _ _ _ _ _ _ _ hc q => mul_int q hc
def addSeq (μ : List M) (x y : D) : Option D := match lstOf μ x, lstOf μ y with
  | some l, some l' => if l.length + l'.length ≤ 100000 then some (.lst (l ++ l')) else none
  | _, _ => none
def opAdd (μ : List M) : D → D → Option D
  | .int i, .int j => some (.int (i + j))
  | .str x, .str y => if x.length + y.length ≤ 100000 then some (.str (x ++ y)) else none
  | x, y => addSeq μ x y
def opSub (_ : List M) : D → D → Option D
  | .int i, .int j => some (.int (i - j))
  | _, _ => none
def opMul (_ : List M) : D → D → Option D
  | .int i, .int j => if mulSmall i j then some (.int (i * j)) else none
  | _, _ => none
def opMod (_ : List M) : D → D → Option D
  | .int i, .int j => if 0 < j then some (.int (i % j)) else none
  | _, _ => none
def opDiv (_ : List M) : D → D → Option D
  | .int i, .int j => if 0 < j ∧ j.natAbs.log2 < 9000 then some (.int (i / j)) else none
  | _, _ => none
def opPow (_ : List M) : D → D → Option D
  | .int i, .int j => if 0 ≤ j ∧ j ≤ 1000000 ∧ i.natAbs < 2 ^ 64 then some (.int (i ^ j.toNat)) else none
  | _, _ => none
theorem okS_append {x y : Str} (h : okS x = true) (h' : okS y = true) : okS (x ++ y) = true := by
  unfold okS at *
  show (x.cps ++ y.cps).all _ = true
  rw [Array.all_append, h, h']; rfl
theorem pdo_int {f : Value → Value → Sem Value} {C : Int → Int → Prop} {h : Int → Int → D} {h' : Int → Int → V} {g : List M → D → D → Option D} (o : OpR X f (rI C h'))
    (hg : ∀ μ x y d, g μ x y = some d → ∃ i j, x = .int i ∧ y = .int j ∧ C i j ∧ d = h i j) (hh : ∀ i j io F, rep S io F (h i j) (h' i j)) : PDO X S f g := by
  refine ⟨_, o, fun c μ x y d1 d2 d Q I r1 r2 e k => ?_⟩
  obtain ⟨i, j, rfl, rfl, hc, rfl⟩ := hg μ d1 d2 d e
  exact ⟨i, j, rep_int.mp r1, rep_int.mp r2, hc, k _ c I.step I (hh i j _ _)⟩
theorem pdo_int0 {f : Value → Value → Sem Value} {h : Int → Int → D} {h' : Int → Int → V} {g : List M → D → D → Option D} (o : OpR X f (rI0 h'))
    (hg : ∀ μ x y d, g μ x y = some d → ∃ i j, x = .int i ∧ y = .int j ∧ d = h i j) (hh : ∀ i j io F, rep S io F (h i j) (h' i j)) : PDO X S f g := by
  refine ⟨_, o, fun c μ x y d1 d2 d Q I r1 r2 e k => ?_⟩
  obtain ⟨i, j, rfl, rfl, rfl⟩ := hg μ d1 d2 d e
  exact ⟨i, j, rep_int.mp r1, rep_int.mp r2, k _ c I.step I (hh i j _ _)⟩
theorem po_sub : PDO X S (binaryOp .Sub) opSub := pdo_int0 (h := fun i j => .int (i - j)) op_sub (fun μ x y d e => by
  unfold opSub at e
  split at e
  · exact ⟨_, _, rfl, rfl, (Option.some.inj e).symm⟩
  · cases e) fun _ _ _ _ => rep_int.mpr rfl
theorem po_mul : PDO X S (binaryOp .Mult) opMul := pdo_int (h := fun i j => .int (i * j)) op_mulOk (fun μ x y d e => by
  unfold opMul at e
  split at e
  · split at e
    · rename_i hm
      exact ⟨_, _, rfl, rfl, mulSmall_ok hm, (Option.some.inj e).symm⟩
    · cases e
  · cases e) fun _ _ _ _ => rep_int.mpr rfl
theorem po_div : PDO X S (binaryOp .FloorDiv) opDiv := pdo_int (h := fun i j => .int (i / j)) op_fdivW (fun μ x y d e => by
  unfold opDiv at e
  split at e
  · split at e
    · rename_i hm
      exact ⟨_, _, rfl, rfl, hm, (Option.some.inj e).symm⟩
    · cases e
  · cases e) fun _ _ _ _ => rep_int.mpr rfl
theorem po_pow : PDO X S (binaryOp .Pow) opPow := pdo_int (h := fun i j => .int (i ^ j.toNat)) op_pow (fun μ x y d e => by
  unfold opPow at e
  split at e
  · split at e
    · rename_i hm
      exact ⟨_, _, rfl, rfl, hm, (Option.some.inj e).symm⟩
    · cases e
  · cases e) fun _ _ _ _ => rep_int.mpr rfl
theorem po_mod : PDO X S (binaryOp .Mod) opMod := by
  refine ⟨_, op_modN, fun c μ x y d1 d2 d Q I r1 r2 e k => ?_⟩
  unfold opMod at e
  split at e
  · rename_i i j
    split at e
    · rename_i hj
      obtain rfl := Option.some.inj e
      refine ⟨i, j, rep_int.mp r1, rep_int.mp r2, by omega, ?_⟩
      show Q (.int (i.fmod j)) c.H
      rw [Int.fmod_eq_emod_of_nonneg _ (Int.le_of_lt hj)]
      exact k _ c I.step I (rep_int.mpr rfl)
    · cases e
  · cases e
theorem po_add : PDO X S (binaryOp .Add) opAdd := by
  refine ⟨fun x y H Q => (rI0 fun i j => .int (i + j)) x y H Q ∨ (∃ i j, x = V.str i ∧ y = V.str j ∧ i.length + j.length ≤ sizeLine ∧ Q (.str (i ++ j)) H) ∨ rCat x y H Q, ?_, ?_⟩
  · intro pins s σ H x y v u Q I rx ry h
    rcases h with h | h | h
    · exact op_add pins s σ H x y v u Q I rx ry h
    · exact op_add_str pins s σ H x y v u Q I rx ry h
    · exact op_cat pins s σ H x y v u Q I rx ry h
  · intro c μ x y d1 d2 d Q I r1 r2 e k
    have sq : addSeq μ d1 d2 = some d → rCat x y c.H Q := fun e => by
      unfold addSeq at e
      split at e
      · rename_i l l' h1 h2
        split at e
        · rename_i hl
          obtain rfl := Option.some.inj e
          obtain ⟨p, xs, rfl, k1, k2⟩ := lst_at I r1 h1
          obtain ⟨q, ys, rfl, k3, k4⟩ := lst_at I r2 h2
          exact ⟨p, q, xs, ys, rfl, rfl, k1, k3, by rw [← k2.len, ← k4.len]; exact sz_of hl, fun z hz => new_lst I (k2.append k4) k hz⟩
        · cases e
      · cases e
    unfold opAdd at e
    split at e
    · obtain rfl := Option.some.inj e
      exact Or.inl ⟨_, _, rep_int.mp r1, rep_int.mp r2, k _ c I.step I (rep_int.mpr rfl)⟩
    · split at e
      · rename_i hl
        obtain rfl := Option.some.inj e
        exact Or.inr (Or.inl ⟨_, _, (rep_str.mp r1).1, (rep_str.mp r2).1, sz_of hl, k _ c I.step I (rep_str.mpr ⟨rfl, okS_append (rep_str.mp r1).2 (rep_str.mp r2).2⟩)⟩)
      · cases e
    · exact Or.inr (Or.inr (sq e))
end
end DL
namespace DL
open PySem PySem.Spec PyProof.Rows L2
/-! ### equality of plain data -/
mutual
def plain : D → Bool
  | .non => true | .bl _ => true | .int _ => true | .str _ => true
  | .tup l => plains l | .lst l => plains l
  | _ => false
def plains : List D → Bool
  | [] => true
  | d :: l => plain d && plains l
end
mutual
def dep : D → Nat
  | .tup l => deps l + 1 | .lst l => deps l + 1
  | _ => 0
def deps : List D → Nat
  | [] => 0
  | d :: l => max (dep d) (deps l)
end
mutual
def py : D → PyData
  | .non => .none | .bl b => .bool b | .int i => .int i | .str s => .str s
  | .tup l => .tuple (pys l) | .lst l => .list (pys l)
  | _ => .none
def pys : List D → List PyData
  | [] => []
  | d :: l => py d :: pys l
end
mutual
def eqB : D → D → Bool
  | .non, .non => true
  | .bl a, .bl b => a == b
  | .bl a, .int j => (if a then 1 else 0) == j
  | .int i, .bl b => i == (if b then 1 else 0)
  | .int i, .int j => i == j
  | .str x, .str y => x == y
  | .tup l, .tup l' => eqBs l l'
  | .lst l, .lst l' => eqBs l l'
  | _, _ => false
def eqBs : List D → List D → Bool
  | [], [] => true
  | d :: l, d' :: l' => eqB d d' && eqBs l l'
  | _, _ => false
end
mutual
theorem eqB_py : ∀ (x y : D), plain x = true → plain y = true → eqB x y = PyData.eqv (py x) (py y)
  | .tup l, y, hx, hy => by
    cases y with
    | tup l' => unfold plain at hx hy; unfold eqB py PyData.eqv; exact eqBs_py l l' hx hy
    | _ => first | (unfold plain at hy; cases hy; done) | (simp [eqB, py, PyData.eqv]; done)
  | .lst l, y, hx, hy => by
    cases y with
    | lst l' => unfold plain at hx hy; unfold eqB py PyData.eqv; exact eqBs_py l l' hx hy
    | _ => first | (unfold plain at hy; cases hy; done) | (simp [eqB, py, PyData.eqv]; done)
  | .non, y, _, hy => by cases y <;> first | (unfold plain at hy; cases hy; done) | (simp [eqB, py, PyData.eqv]; done)
  | .bl b, y, _, hy => by cases y <;> first | (unfold plain at hy; cases hy; done) | (simp [eqB, py, PyData.eqv]; done)
  | .int i, y, _, hy => by cases y <;> first | (unfold plain at hy; cases hy; done) | (simp [eqB, py, PyData.eqv]; done)
  | .str s, y, _, hy => by cases y <;> first | (unfold plain at hy; cases hy; done) | (simp [eqB, py, PyData.eqv]; done)
  | .ty _, _, hx, _ => by unfold plain at hx; cases hx
  | .glo _, _, hx, _ => by unfold plain at hx; cases hx
  | .dct _ _, _, hx, _ => by unfold plain at hx; cases hx
  | .obj _ _ _, _, hx, _ => by unfold plain at hx; cases hx
  | .cel _, _, hx, _ => by unfold plain at hx; cases hx
  | .scr _, _, hx, _ => by unfold plain at hx; cases hx
  | .exc _ _ _, _, hx, _ => by unfold plain at hx; cases hx
  | .txt, _, hx, _ => by unfold plain at hx; cases hx
theorem eqBs_py : ∀ (l l' : List D), plains l = true → plains l' = true → eqBs l l' = PyData.eqvAll (pys l) (pys l')
  | [], [], _, _ => by simp [eqBs, pys, PyData.eqvAll]
  | [], _ :: _, _, _ => by simp [eqBs, pys, PyData.eqvAll]
  | _ :: _, [], _, _ => by simp [eqBs, pys, PyData.eqvAll]
  | d :: l, d' :: l', h, h' => by
    unfold plains at h h'
    have h1 := Bool.and_eq_true_iff.mp h
    have h2 := Bool.and_eq_true_iff.mp h'
    unfold eqBs pys PyData.eqvAll
    rw [eqB_py d d' h1.1 h2.1, eqBs_py l l' h1.2 h2.2]
end
mutual
theorem dep_py : ∀ x : D, (py x).depth = dep x
  | .tup l => by unfold py dep; rw [PyData.depth, deps_py l]
  | .lst l => by unfold py dep; rw [PyData.depth, deps_py l]
  | .non => by simp [py, dep, PyData.depth]
  | .bl _ => by simp [py, dep, PyData.depth]
  | .int _ => by simp [py, dep, PyData.depth]
  | .str _ => by simp [py, dep, PyData.depth]
  | .ty _ => by simp [py, dep, PyData.depth]
  | .glo _ => by simp [py, dep, PyData.depth]
  | .dct _ _ => by simp [py, dep, PyData.depth]
  | .obj _ _ _ => by simp [py, dep, PyData.depth]
  | .cel _ => by simp [py, dep, PyData.depth]
  | .scr _ => by simp [py, dep, PyData.depth]
  | .exc _ _ _ => by simp [py, dep, PyData.depth]
  | .txt => by simp [py, dep, PyData.depth]
theorem deps_py : ∀ l : List D, PyData.depthAll (pys l) = deps l
  | [] => by simp [pys, deps, PyData.depthAll]
  | d :: l => by unfold pys deps; rw [PyData.depthAll, dep_py d, deps_py l]
end
section
variable {S : Sx} {io : List Addr} {F H : Hp}
mutual
theorem rep_lay : ∀ (d : D) {v : V}, rep S io F d v → plain d = true → (py d).canLay0 = true
  | .tup l, _, r, p => by
    unfold rep at r; unfold plain at p; unfold py
    obtain ⟨_, _, _, _, r3⟩ := r
    rw [PyData.canLay0]; exact reps_lay l r3 p
  | .lst l, _, r, p => by
    unfold rep at r; unfold plain at p; unfold py
    obtain ⟨_, _, _, _, r3⟩ := r
    rw [PyData.canLay0]; exact reps_lay l r3 p
  | .non, _, _, _ => by simp [py, PyData.canLay0]
  | .bl _, _, _, _ => by simp [py, PyData.canLay0]
  | .int _, _, _, _ => by simp [py, PyData.canLay0]
  | .str s, _, r, _ => by
    unfold py; rw [PyData.canLay0]
    exact (rep_str.mp r).2
  | .ty _, _, _, hx => by unfold plain at hx; cases hx
  | .glo _, _, _, hx => by unfold plain at hx; cases hx
  | .dct _ _, _, _, hx => by unfold plain at hx; cases hx
  | .obj _ _ _, _, _, hx => by unfold plain at hx; cases hx
  | .cel _, _, _, hx => by unfold plain at hx; cases hx
  | .scr _, _, _, hx => by unfold plain at hx; cases hx
  | .exc _ _ _, _, _, hx => by unfold plain at hx; cases hx
  | .txt, _, _, hx => by unfold plain at hx; cases hx
theorem reps_lay : ∀ (l : List D) {xs : List V}, reps S io F l xs → plains l = true → PyData.canLayAll0 (pys l) = true
  | [], _, _, _ => by simp [pys, PyData.canLayAll0]
  | d :: l, _, r, p => by
    obtain ⟨x, q, rfl, r1, r2⟩ := r.uncons
    unfold plains at p
    have p1 := Bool.and_eq_true_iff.mp p
    unfold pys
    rw [PyData.canLayAll0, rep_lay d r1 p1.1, reps_lay l r2 p1.2]; rfl
end
mutual
theorem rep_dp (e : Ex F H) : ∀ (d : D) {v : V}, rep S io F d v → plain d = true → Dp S.K H v (py d)
  | .tup l, _, r, p => by
    unfold rep at r; unfold plain at p; unfold py
    obtain ⟨a, xs, rfl, r2, r3⟩ := r
    exact .tup (ex_t e r2) (reps_dp e l r3 p)
  | .lst l, _, r, p => by
    unfold rep at r; unfold plain at p; unfold py
    obtain ⟨a, xs, rfl, r2, r3⟩ := r
    exact .lst (sq_of (e _ _ r2)) (reps_dp e l r3 p)
  | .non, _, r, _ => by rw [rep_non.mp r]; unfold py; exact .non
  | .bl _, _, r, _ => by rw [rep_bl.mp r]; unfold py; exact .bl _
  | .int _, _, r, _ => by rw [rep_int.mp r]; unfold py; exact .int _
  | .str s, _, r, _ => by rw [(rep_str.mp r).1]; unfold py; exact .str _
  | .ty _, _, _, hx => by unfold plain at hx; cases hx
  | .glo _, _, _, hx => by unfold plain at hx; cases hx
  | .dct _ _, _, _, hx => by unfold plain at hx; cases hx
  | .obj _ _ _, _, _, hx => by unfold plain at hx; cases hx
  | .cel _, _, _, hx => by unfold plain at hx; cases hx
  | .scr _, _, _, hx => by unfold plain at hx; cases hx
  | .exc _ _ _, _, _, hx => by unfold plain at hx; cases hx
  | .txt, _, _, hx => by unfold plain at hx; cases hx
theorem reps_dp (e : Ex F H) : ∀ (l : List D) {xs : List V}, reps S io F l xs → plains l = true → DpAll S.K H xs (pys l)
  | [], _, r, _ => by rw [r.eq_nil]; unfold pys; exact .nil
  | d :: l, _, r, p => by
    obtain ⟨x, q, rfl, r1, r2⟩ := r.uncons
    unfold plains at p
    have p1 := Bool.and_eq_true_iff.mp p
    unfold pys
    exact .cons (rep_dp e d r1 p1.1) (reps_dp e l r2 p1.2)
end
end
/-- a cell's list as it stands -/
def now (μ : List M) : D → D
  | .cel i => match μ[i]? with
    | some (.lst l) => .lst l
    | _ => .cel i
  | d => d
theorem dp_at {S : Sx} {c : Cf} {μ : List M} {d : D} {v : V} (I : SI S c μ) (r : rep S c.io c.F d v) (p : plain (now μ d) = true) : Dp S.K c.H v (py (now μ d)) ∧ (py (now μ d)).canLay0 = true := by
  have same : now μ d = d → Dp S.K c.H v (py (now μ d)) ∧ (py (now μ d)).canLay0 = true := fun e => by
    rw [e] at p ⊢
    exact ⟨rep_dp I.ex d r p, rep_lay d r p⟩
  cases d with
  | cel i =>
    cases e : μ[i]? with
    | none => exact same (by dsimp only [now]; rw [e])
    | some m =>
      cases m with
      | lst l =>
        have en : now μ (.cel i) = .lst l := by dsimp only [now]; rw [e]
        rw [en] at p ⊢
        obtain ⟨a, xs, rfl, h2, h3⟩ := lst_at (l := l) I r (by dsimp only [lstOf]; rw [e])
        unfold plain at p; unfold py
        refine ⟨.lst (sq_of h2) (reps_dp I.ex l h3 p), ?_⟩
        rw [PyData.canLay0]; exact reps_lay l h3 p
      | _ => exact same (by dsimp only [now]; rw [e])
  | _ => exact same rfl
def eqOk (x y : D) : Bool := plain x && (plain y && (decide (dep x ≤ 64) && decide (dep y ≤ 64)))
def opEq (μ : List M) (x y : D) : Option D := if eqOk (now μ x) (now μ y) then some (.bl (eqB (now μ x) (now μ y))) else none
def opNe (μ : List M) (x y : D) : Option D := if eqOk (now μ x) (now μ y) then some (.bl (!eqB (now μ x) (now μ y))) else none
section
variable {X : Cx} {S : Sx} {W : WX} {a b e : Expr} {es : List Expr} {da db d : DE} {pos : Pos} {k : Nat}
theorem eq_parts {c : Cf} {μ : List M} {x y : V} {d1 d2 : D} (I : SI S c μ) (r1 : rep S c.io c.F d1 x) (r2 : rep S c.io c.F d2 y) (h : eqOk (now μ d1) (now μ d2) = true) :
    ∃ d e, Dp S.K c.H x d ∧ Dp S.K c.H y e ∧ SeqAt.shaped d = true ∧ SeqAt.shaped e = true ∧ PyData.eqv d e = eqB (now μ d1) (now μ d2) := by
  obtain ⟨h1, h⟩ := Bool.and_eq_true_iff.mp h
  obtain ⟨h2, h⟩ := Bool.and_eq_true_iff.mp h
  obtain ⟨h3, h4⟩ := Bool.and_eq_true_iff.mp h
  obtain ⟨k1, k2⟩ := dp_at I r1 h1
  obtain ⟨k3, k4⟩ := dp_at I r2 h2
  refine ⟨_, _, k1, k3, Bool.and_eq_true_iff.mpr ⟨k2, ?_⟩, Bool.and_eq_true_iff.mpr ⟨k4, ?_⟩, (eqB_py _ _ h1 h2).symm⟩
  · rw [dep_py]; exact h3
  · rw [dep_py]; exact h4
theorem po_eq (hK : X.K = S.K) (hu : X.A.units + 64 < cLine) : PDO X S (compareOp .Eq) opEq := by
  refine ⟨_, op_eqD hu, fun c μ x y d1 d2 d Q I r1 r2 e k => ?_⟩
  unfold opEq at e
  split at e
  · rename_i h
    obtain rfl := Option.some.inj e
    obtain ⟨p, q, k1, k2, k3, k4, k5⟩ := eq_parts I r1 r2 h
    refine ⟨p, q, by rw [hK]; exact k1, by rw [hK]; exact k2, k3, k4, ?_⟩
    rw [k5]
    exact k _ c I.step I (rep_bl.mpr rfl)
  · cases e
theorem po_ne (hK : X.K = S.K) (hu : X.A.units + 64 < cLine) : PDO X S (compareOp .NotEq) opNe := by
  refine ⟨_, op_neD hu, fun c μ x y d1 d2 d Q I r1 r2 e k => ?_⟩
  unfold opNe at e
  split at e
  · rename_i h
    obtain rfl := Option.some.inj e
    obtain ⟨p, q, k1, k2, k3, k4, k5⟩ := eq_parts I r1 r2 h
    refine ⟨p, q, by rw [hK]; exact k1, by rw [hK]; exact k2, k3, k4, ?_⟩
    rw [k5]
    exact k _ c I.step I (rep_bl.mpr rfl)
  · cases e
/-! ### order -/
def ltL (x y : Str) : Bool := decide (x.cps.toList < y.cps.toList)
def opLt (_ : List M) : D → D → Option D
  | .int i, .int j => some (.bl (decide (i < j)))
  | .str x, .str y => some (.bl (ltL x y))
  | _, _ => none
def opLe (_ : List M) : D → D → Option D
  | .int i, .int j => some (.bl (decide (i ≤ j)))
  | .str x, .str y => some (.bl (!ltL y x))
  | _, _ => none
def opGt (_ : List M) : D → D → Option D
  | .int i, .int j => some (.bl (decide (j < i)))
  | .str x, .str y => some (.bl (ltL y x))
  | _, _ => none
def opGe (_ : List M) : D → D → Option D
  | .int i, .int j => some (.bl (decide (j ≤ i)))
  | .str x, .str y => some (.bl (!ltL x y))
  | _, _ => none
theorem or_op {f : Value → Value → Sem Value} {r r' : R2} (h : OpR X f r) (h' : OpR X f r') : OpR X f (fun x y H Q => r x y H Q ∨ r' x y H Q) := by
  intro pins s σ H x y v u Q I rx ry q
  rcases q with q | q
  · exact h pins s σ H x y v u Q I rx ry q
  · exact h' pins s σ H x y v u Q I rx ry q
theorem po_lt : PDO X S (compareOp .Lt) opLt := by
  refine ⟨_, or_op op_lt op_lt_str, fun c μ x y d1 d2 d Q I r1 r2 e k => ?_⟩
  unfold opLt at e
  split at e
  · obtain rfl := Option.some.inj e
    exact Or.inl ⟨_, _, rep_int.mp r1, rep_int.mp r2, k _ c I.step I (rep_bl.mpr rfl)⟩
  · obtain rfl := Option.some.inj e
    exact Or.inr ⟨_, _, (rep_str.mp r1).1, (rep_str.mp r2).1, k _ c I.step I (rep_bl.mpr rfl)⟩
  · cases e
theorem po_ge : PDO X S (compareOp .GtE) opGe := by
  refine ⟨_, or_op op_ge op_ge_str, fun c μ x y d1 d2 d Q I r1 r2 e k => ?_⟩
  unfold opGe at e
  split at e
  · obtain rfl := Option.some.inj e
    exact Or.inl ⟨_, _, rep_int.mp r1, rep_int.mp r2, k _ c I.step I (rep_bl.mpr rfl)⟩
  · obtain rfl := Option.some.inj e
    exact Or.inr ⟨_, _, (rep_str.mp r1).1, (rep_str.mp r2).1, k _ c I.step I (rep_bl.mpr rfl)⟩
  · cases e
/-! ### is None -/
def isNon : D → Bool
  | .non => true
  | _ => false
theorem isNon_at {io : List Addr} {F : Hp} {d : D} {v : V} (r : rep S io F d v) : decide (v = .non) = isNon d := by
  cases d <;> first
    | (rw [rep_non.mp r]; rfl)
    | (rw [rep_bl.mp r]; rfl)
    | (rw [rep_int.mp r]; rfl)
    | (rw [(rep_str.mp r).1]; rfl)
    | (rw [rep_ty.mp r]; rfl)
    | (rw [rep_glo.mp r]; rfl)
    | (unfold rep at r; obtain ⟨a, _, rfl, _⟩ := r; rfl)
    | (unfold rep at r; obtain ⟨a, _, _, rfl, _⟩ := r; rfl)
    | (unfold rep at r; obtain ⟨a, rfl, _⟩ := r; rfl)
def opIs (_ : List M) : D → D → Option D
  | x, .non => some (.bl (isNon x))
  | _, _ => none
def opIsN (_ : List M) : D → D → Option D
  | x, .non => some (.bl (!isNon x))
  | _, _ => none
theorem po_is : PDO X S (compareOp .Is) opIs := by
  refine ⟨_, op_isN, fun c μ x y d1 d2 d Q I r1 r2 e k => ?_⟩
  unfold opIs at e
  split at e
  · obtain rfl := Option.some.inj e
    refine ⟨rep_non.mp r2, ?_⟩
    rw [isNon_at r1]
    exact k _ c I.step I (rep_bl.mpr rfl)
  · cases e
theorem po_isN : PDO X S (compareOp .IsNot) opIsN := by
  refine ⟨_, op_notN, fun c μ x y d1 d2 d Q I r1 r2 e k => ?_⟩
  unfold opIsN at e
  split at e
  · obtain rfl := Option.some.inj e
    refine ⟨rep_non.mp r2, ?_⟩
    rw [isNon_at r1]
    exact k _ c I.step I (rep_bl.mpr rfl)
  · cases e
/-! ### and, or, not as values; as tests -/
def dOr (da db : DE) : DE := fun env μ => (da env μ).bind fun x μ1 => match truth μ1 x with
  | some true => .ok x μ1
  | some false => db env μ1
  | none => .stuck
def dAnd (da db : DE) : DE := fun env μ => (da env μ).bind fun x μ1 => match truth μ1 x with
  | some true => db env μ1
  | some false => .ok x μ1
  | none => .stuck
def dNot (da : DE) : DE := fun env μ => (da env μ).bind fun x μ1 => match truth μ1 x with
  | some b => .ok (.bl (!b)) μ1
  | none => .stuck
theorem pd_or {rest : List Expr} (hK : X.K = S.K) (ha : PDE X S W a da) (hb : PDE X S W (.BoolOp .Or (b :: rest) pos) db) : PDE X S W (.BoolOp .Or (a :: b :: rest) pos) (dOr da db) := by
  obtain ⟨ta, pa, ka⟩ := ha.ex
  obtain ⟨tb, pb, kb⟩ := hb.ex
  refine ⟨_, pe_orT pa pb, fun env σ c μ Q I en q => ?_⟩
  show ta σ c.H fun x H1 => ∃ k, TruV X.K x H1 k ∧ if k = true then Q x H1 else tb σ H1 Q
  refine bindE (fun Q' => ka env σ c μ Q' I en) q fun x μ1 v c1 s1 I1 r1 q1 => ?_
  cases e1 : truth μ1 x with
  | none => rw [e1] at q1; exact q1.elim
  | some k =>
    rw [e1] at q1
    refine ⟨k, by rw [hK]; exact tru_at I1 r1 e1, ?_⟩
    cases k with
    | true => exact iteT (q1 v c1 I1.step I1 r1)
    | false => exact iteF (kb env σ c1 μ1 Q I1 (en.step s1) q1)
theorem pd_and {rest : List Expr} (hK : X.K = S.K) (ha : PDE X S W a da) (hb : PDE X S W (.BoolOp .And (b :: rest) pos) db) : PDE X S W (.BoolOp .And (a :: b :: rest) pos) (dAnd da db) := by
  obtain ⟨ta, pa, ka⟩ := ha.ex
  obtain ⟨tb, pb, kb⟩ := hb.ex
  refine ⟨_, pe_andT pa pb, fun env σ c μ Q I en q => ?_⟩
  show ta σ c.H fun x H1 => ∃ k, TruV X.K x H1 k ∧ if k = true then tb σ H1 Q else Q x H1
  refine bindE (fun Q' => ka env σ c μ Q' I en) q fun x μ1 v c1 s1 I1 r1 q1 => ?_
  cases e1 : truth μ1 x with
  | none => rw [e1] at q1; exact q1.elim
  | some k =>
    rw [e1] at q1
    refine ⟨k, by rw [hK]; exact tru_at I1 r1 e1, ?_⟩
    cases k with
    | true => exact iteT (kb env σ c1 μ1 Q I1 (en.step s1) q1)
    | false => exact iteF (q1 v c1 I1.step I1 r1)
theorem pd_one {op : BoolOp} (ha : PDE X S W a da) : PDE X S W (.BoolOp op [a] pos) da := by
  obtain ⟨ta, pa, ka⟩ := ha.ex
  exact ⟨_, pe_one pa, ka⟩
theorem pd_not (hK : X.K = S.K) (ha : PDE X S W a da) : PDE X S W (.UnaryOp .Not a pos) (dNot da) := by
  obtain ⟨ta, pa, ka⟩ := ha.ex
  refine ⟨_, pe_notT pa, fun env σ c μ Q I en q => ?_⟩
  show ta σ c.H fun x H1 => ∃ k, TruV X.K x H1 k ∧ Q (.bl (!k)) H1
  refine bindE (fun Q' => ka env σ c μ Q' I en) q fun x μ1 v c1 s1 I1 r1 q1 => ?_
  cases e1 : truth μ1 x with
  | none => rw [e1] at q1; exact q1.elim
  | some k =>
    rw [e1] at q1
    exact ⟨k, by rw [hK]; exact tru_at I1 r1 e1, q1 _ c1 I1.step I1 (rep_bl.mpr rfl)⟩
def opNeg (_ : List M) : D → Option D
  | .int i => some (.int (-i))
  | _ => none
def dNeg (da : DE) : DE := fun env μ => (da env μ).bind fun x μ1 => match x with
  | .int i => .ok (.int (-i)) μ1
  | _ => .stuck
theorem pd_neg (ha : PDE X S W a da) : PDE X S W (.UnaryOp .USub a pos) (dNeg da) := by
  obtain ⟨ta, pa, ka⟩ := ha.ex
  refine ⟨_, pe_un un_neg pa, fun env σ c μ Q I en q => ?_⟩
  show ta σ c.H fun x H1 => ∃ i, x = .int i ∧ Q (.int (-i)) H1
  refine bindE (fun Q' => ka env σ c μ Q' I en) q fun x μ1 v c1 s1 I1 r1 q1 => ?_
  cases x with
  | int i => exact ⟨i, rep_int.mp r1, q1 _ c1 I1.step I1 (rep_int.mpr rfl)⟩
  | _ => exact q1.elim
/-- a test that is an expression's truth -/
def dTru (da : DE) : DT := fun env μ => (da env μ).bind fun x μ1 => match truth μ1 x with
  | some b => .ok b μ1
  | none => .stuck
def tAnd2 (a b : DT) : DT := fun env μ => (a env μ).bind fun k μ1 => if k = true then b env μ1 else .ok false μ1
def tOr2 (a b : DT) : DT := fun env μ => (a env μ).bind fun k μ1 => if k = true then .ok true μ1 else b env μ1
def tNot2 (a : DT) : DT := fun env μ => (a env μ).bind fun k μ1 => .ok (!k) μ1
theorem pdt_tru (hK : X.K = S.K) (ha : PDE X S W a da) (he : ∀ whole, isTrue a X.env whole = (do let v ← whole; standAt a.pos; holding [v] (truthy v)) := by intro _; rfl) : PDT X S W a (dTru da) := by
  obtain ⟨ta, pa, ka⟩ := ha.ex
  refine ⟨_, pt_truth pa he, fun env σ c μ Q I en q => ?_⟩
  show ta σ c.H fun x H1 => ∃ k, TruV X.K x H1 k ∧ Q k H1
  refine bindET (fun Q' => ka env σ c μ Q' I en) q fun x μ1 v c1 s1 I1 r1 q1 => ?_
  cases e1 : truth μ1 x with
  | none => rw [e1] at q1; exact q1.elim
  | some k =>
    rw [e1] at q1
    exact ⟨k, by rw [hK]; exact tru_at I1 r1 e1, q1 c1 I1.step I1⟩
/-- a comparison's test -/
def dTst (da : DE) : DT := fun env μ => (da env μ).bind fun x μ1 => match x with
  | .bl b => .ok b μ1
  | _ => .stuck
theorem pdt_cmp {op : CmpOp} {g : List M → D → D → Option D} (o : PDO X S (compareOp op) g) (ha : PDE X S W a da) (hb : PDE X S W b db) (hm : behindInMarks op b = false) : PDT X S W (.Compare a [op] [b] pos) (dTst (dOp g da db)) := by
  obtain ⟨r, ho, hr⟩ := o.ex
  obtain ⟨ta, pa, ka⟩ := ha.ex
  obtain ⟨tb, pb, kb⟩ := hb.ex
  refine ⟨_, pt_cmpR ho pa pb hm, fun env σ c μ Q I en q => ?_⟩
  show tOp r ta tb σ c.H fun x H' => ∃ k, x = .bl k ∧ Q k H'
  refine bindET (fun Q' => op_run hr ka kb env σ c μ Q' I en) q fun x μ1 v c1 s1 I1 r1 q1 => ?_
  cases x with
  | bl k => exact ⟨k, rep_bl.mp r1, q1 c1 I1.step I1⟩
  | _ => exact q1.elim
variable {ta tb : DT}
theorem PDW.pt {t : DT} (h : PDW X S W e t) : PDT X S W e t := by
  obtain ⟨ta, pa, ka⟩ := h.ex
  exact ⟨_, pa.pt, ka⟩
theorem pdw_and1 (ha : PDT X S W a ta) : PDW X S W (.BoolOp .And [a] pos) ta := by
  obtain ⟨t, pa, ka⟩ := ha.ex
  exact ⟨_, pw_and1 pa, ka⟩
theorem pdw_or1 (ha : PDT X S W a ta) : PDW X S W (.BoolOp .Or [a] pos) ta := by
  obtain ⟨t, pa, ka⟩ := ha.ex
  exact ⟨_, pw_or1 pa, ka⟩
theorem pdw_and {rest : List Expr} (ha : PDT X S W a ta) (hb : PDW X S W (.BoolOp .And (b :: rest) pos) tb) : PDW X S W (.BoolOp .And (a :: b :: rest) pos) (tAnd2 ta tb) := by
  obtain ⟨t, pa, ka⟩ := ha.ex
  obtain ⟨u, pb, kb⟩ := hb.ex
  refine ⟨_, pw_and pa pb, fun env σ c μ Q I en q => ?_⟩
  show t σ c.H fun c H1 => if c = true then u σ H1 Q else Q false H1
  refine bindTT (fun Q' => ka env σ c μ Q' I en) q fun k μ1 c1 s1 I1 q1 => ?_
  cases k with
  | true => exact iteT (kb env σ c1 μ1 Q I1 (en.step s1) q1)
  | false => exact iteF (q1 c1 I1.step I1)
theorem pdw_or {rest : List Expr} (ha : PDT X S W a ta) (hb : PDW X S W (.BoolOp .Or (b :: rest) pos) tb) : PDW X S W (.BoolOp .Or (a :: b :: rest) pos) (tOr2 ta tb) := by
  obtain ⟨t, pa, ka⟩ := ha.ex
  obtain ⟨u, pb, kb⟩ := hb.ex
  refine ⟨_, pw_or pa pb, fun env σ c μ Q I en q => ?_⟩
  show t σ c.H fun c H1 => if c = true then Q true H1 else u σ H1 Q
  refine bindTT (fun Q' => ka env σ c μ Q' I en) q fun k μ1 c1 s1 I1 q1 => ?_
  cases k with
  | true => exact iteT (q1 c1 I1.step I1)
  | false => exact iteF (kb env σ c1 μ1 Q I1 (en.step s1) q1)
theorem pdt_not (ha : PDT X S W a ta) : PDT X S W (.UnaryOp .Not a pos) (tNot2 ta) := by
  obtain ⟨t, pa, ka⟩ := ha.ex
  refine ⟨_, pt_not pa, fun env σ c μ Q I en q => ?_⟩
  show t σ c.H fun c H1 => Q (!c) H1
  exact bindTT (fun Q' => ka env σ c μ Q' I en) q fun k μ1 c1 s1 I1 q1 => q1 c1 I1.step I1
def dIfE (t : DT) (da db : DE) : DE := fun env μ => (t env μ).bind fun k μ1 => if k = true then da env μ1 else db env μ1
/-- a < b < c -/
def dChain (g g' : List M → D → D → Option D) (da db dc : DE) : DE := fun env μ => (da env μ).bind fun x μ1 => (db env μ1).bind fun y μ2 => match g μ2 x y with
  | some (.bl k) => if k = true then (dc env μ2).bind fun z μ3 => match g' μ3 y z with
    | some d => .ok d μ3
    | none => .stuck
    else .ok (.bl false) μ2
  | _ => .stuck
end
end DL
namespace DL
open PySem PySem.Spec PyProof.Rows L2
/-! ### the widest readings of a denotation -/
def tE (S : Sx) (W : WX) (d : DE) : TE := fun σ H Q => ∃ env c μ, c.H = H ∧ SI S c μ ∧ EnvOk S c env σ ∧ EQ S W σ c Q (d env μ)
def tT (S : Sx) (W : WX) (d : DT) : TT := fun σ H Q => ∃ env c μ, c.H = H ∧ SI S c μ ∧ EnvOk S c env σ ∧ TQ S W σ c Q (d env μ)
section
variable {X : Cx} {S : Sx} {W : WX} {a b e : Expr} {es : List Expr} {da db d : DE} {dt : DT} {ds : DA} {pos : Pos} {k : Nat}
theorem PDE.pe (h : PDE X S W e d) : PE X e (tE S W d) := by
  obtain ⟨t, p, k⟩ := h.ex
  refine ⟨fun pins s σ H Q I q => ?_⟩
  obtain ⟨env, c, μ, rfl, i, en, q⟩ := q
  exact p.run pins s σ _ Q I (k env σ c μ Q i en q)
theorem PDT.pt (h : PDT X S W e dt) : PT X e (tT S W dt) := by
  obtain ⟨t, p, k⟩ := h.ex
  refine ⟨fun pins s σ H Q I q => ?_⟩
  obtain ⟨env, c, μ, rfl, i, en, q⟩ := q
  exact p.run pins s σ _ Q I (k env σ c μ Q i en q)
/-! ### arguments, displays -/
@[simp] def aNil : DA := fun _ μ => .ok [] μ
def aCons (da : DE) (ds : DA) : DA := fun env μ => (da env μ).bind fun x μ1 => (ds env μ1).bind fun l μ2 => .ok (x :: l) μ2
theorem pda_nil : PDA X S W [] aNil := ⟨_, pa_nil, fun env σ c μ Q I en q => q [] c I.step I .nil⟩
theorem pda_cons (ha : PDE X S W e da) (hr : PDA X S W es ds) (hs : starEach (e :: es) X.env = (false, eval e X.env) :: starEach es X.env := by rfl) : PDA X S W (e :: es) (aCons da ds) := by
  obtain ⟨ta, pa, ka⟩ := ha.ex
  obtain ⟨tb, pb, kb⟩ := hr.ex
  refine ⟨_, pa_cons pa pb hs, fun env σ c μ Q I en q => ?_⟩
  show ta σ c.H fun x H1 => tb σ H1 fun xs H2 => Q (x :: xs) H2
  refine bindEA (fun Q' => ka env σ c μ Q' I en) q fun x μ1 v c1 s1 I1 r1 q1 => ?_
  refine bindAA (fun Q' => kb env σ c1 μ1 Q' I1 (en.step s1)) q1 fun l μ2 vs c2 s2 I2 r2 q2 => ?_
  exact q2 _ c2 I2.step I2 (.cons (s2.rep r1) r2)
def dTup (ds : DA) : DE := fun env μ => (ds env μ).bind fun l μ1 => if l.length ≤ 100000 then .ok (.tup l) μ1 else .stuck
def dLst (ds : DA) : DE := fun env μ => (ds env μ).bind fun l μ1 => if l.length ≤ 100000 then .ok (.lst l) μ1 else .stuck
theorem pd_tup (ha : PDA X S W es ds) : PDE X S W (.Tuple es k pos) (dTup ds) := by
  obtain ⟨ta, pa, ka⟩ := ha.ex
  refine ⟨_, pe_tup pa, fun env σ c μ Q I en q => ?_⟩
  show ta σ c.H fun xs H1 => xs.length ≤ sizeLine ∧ ∀ p, H1 p = none → Q (.ref p) (upd H1 p (.tup xs))
  refine bindAE (fun Q' => ka env σ c μ Q' I en) q fun l μ1 vs c1 s1 I1 r1 q1 => ?_
  by_cases h : l.length ≤ 100000
  · rw [if_pos h] at q1
    exact ⟨by rw [← r1.len]; exact sz_of h, fun p hp => new_tup I1 r1 q1 hp⟩
  · rw [if_neg h] at q1; exact q1.elim
theorem pd_lst (ha : PDA X S W es ds) : PDE X S W (.List es pos) (dLst ds) := by
  obtain ⟨ta, pa, ka⟩ := ha.ex
  refine ⟨_, pe_lst pa, fun env σ c μ Q I en q => ?_⟩
  show ta σ c.H fun xs H1 => xs.length ≤ sizeLine ∧ ∀ p, H1 p = none → Q (.ref p) (upd H1 p (.lst xs))
  refine bindAE (fun Q' => ka env σ c μ Q' I en) q fun l μ1 vs c1 s1 I1 r1 q1 => ?_
  by_cases h : l.length ≤ 100000
  · rw [if_pos h] at q1
    exact ⟨by rw [← r1.len]; exact sz_of h, fun p hp => new_lst I1 r1 q1 hp⟩
  · rw [if_neg h] at q1; exact q1.elim
/-! ### subscripts -/
def strAt (z : Str) (i : Int) : Option D := match atI z.cps.toList i with
  | some c => some (.str ⟨#[c]⟩)
  | none => none
def opIx (μ : List M) : D → D → Option D
  | .str z, .int i => if z.length ≤ 100000 then strAt z i else none
  | x, .int i => match seqOf μ x with
    | some l => atI l i
    | none => none
  | _, _ => none
theorem atI_reps {io : List Addr} {F : Hp} {l : List D} {xs : List V} {i : Int} {d : D} (r : reps S io F l xs) (h : atI l i = some d) : ∃ x, atI xs i = some x ∧ rep S io F d x := by
  unfold atI at h ⊢
  rw [← r.len]
  cases e : ixN l.length i with
  | none => rw [e] at h; cases h
  | some j =>
    rw [e] at h
    exact r.get h
theorem okS_at {z : Str} {i : Int} {c : Nat} (h : okS z = true) (e : atI z.cps.toList i = some c) : okS ⟨#[c]⟩ = true := by
  unfold atI at e
  cases q : ixN z.cps.toList.length i with
  | none => rw [q] at e; cases e
  | some j =>
    rw [q] at e
    have m : c ∈ z.cps.toList := List.mem_of_getElem? e
    unfold okS at h ⊢
    rw [← Array.all_toList] at h
    have := List.all_eq_true.mp h c m
    simp only [Array.all_eq_true] 
    intro i hi
    simp at hi
    subst hi
    simpa using this
theorem pd_ix (hK : X.K = S.K) (ha : PDE X S W a da) (hb : PDE X S W b db) (hs : PlainIx b) : PDE X S W (.Subscript a b pos) (dOp opIx da db) := by
  obtain ⟨ta, pa, ka⟩ := ha.ex
  obtain ⟨tb, pb, kb⟩ := hb.ex
  have un : IxR X (fun x y H Q => rIxL X.K x y H Q ∨ rIxT X.K x y H Q ∨ rIxS x y H Q) := by
    intro value slice pins s σ H x y v u Q I rx ry h hs
    rcases h with h | h | h
    · exact ix_list value slice pins s σ H x y v u Q I rx ry h hs
    · exact ix_tup value slice pins s σ H x y v u Q I rx ry h hs
    · exact ix_str value slice pins s σ H x y v u Q I rx ry h hs
  refine ⟨_, pe_ix un pa pb hs, op_run (fun c μ x y d1 d2 d Q I r1 r2 e k => ?_) ka kb⟩
  have sq : ∀ {i : Int}, rep S c.io c.F (.int i) y → (match seqOf μ d1 with
    | some l => atI l i
    | none => none) = some d → rIxL X.K x y c.H Q ∨ rIxT X.K x y c.H Q ∨ rIxS x y c.H Q := fun {i} r2 e => by
    cases e1 : seqOf μ d1 with
    | none => rw [e1] at e; cases e
    | some l =>
      rw [e1] at e
      obtain ⟨p, xs, rfl, h2, h3⟩ := seq_at I r1 e1
      obtain ⟨z, h4, h5⟩ := atI_reps h3 e
      rw [rep_int.mp r2]
      rcases h2 with h2 | h2
      · exact Or.inl ⟨p, xs, i, z, rfl, rfl, by rw [hK]; exact h2, h4, k _ c I.step I h5⟩
      · exact Or.inr (Or.inl ⟨p, xs, i, z, rfl, rfl, by rw [hK]; exact h2, h4, k _ c I.step I h5⟩)
  unfold opIx at e
  split at e
  · rename_i z i
    split at e
    · rename_i hz
      unfold strAt at e
      split at e
      · rename_i cc hc
        obtain rfl := Option.some.inj e
        rw [(rep_str.mp r1).1, rep_int.mp r2]
        exact Or.inr (Or.inr ⟨z, i, cc, rfl, rfl, sz_of hz, hc, k _ c I.step I (rep_str.mpr ⟨rfl, okS_at (rep_str.mp r1).2 hc⟩)⟩)
      · cases e
    · cases e
  · exact sq r2 e
  · cases e
/-! ### slices -/
def cutL {α : Type} (xs : List α) (lo hi : Option Int) : List α := (xs.drop (HT.sIx xs.length 0 lo)).take (HT.sIx xs.length xs.length hi - HT.sIx xs.length 0 lo)
def dNoP : En → List M → Out (Option Int) := fun _ μ => .ok none μ
def dP (d : DE) : En → List M → Out (Option Int) := fun env μ => (d env μ).bind fun x μ1 => match x with
  | .int i => .ok (some i) μ1
  | _ => .stuck
def OQ (S : Sx) (W : WX) (σ : St) (c : Cf) (Q : Option Int → Hp → Prop) : Out (Option Int) → Prop
  | .ok o μ => ∀ c', Step S c c' → SI S c' μ → Q o c'.H
  | .ex x ns l μ => XQ S W σ c x ns l μ
  | .stuck => False
structure PDP (X : Cx) (S : Sx) (W : WX) (e : Option Expr) (d : En → List M → Out (Option Int)) : Prop where
  ex : ∃ t, PO X e t ∧ ∀ env σ c μ Q, SI S c μ → EnvOk S c env σ → OQ S W σ c Q (d env μ) → t σ c.H Q
theorem pdp_none : PDP X S W none dNoP := ⟨_, po_none, fun env σ c μ Q I en q => q c I.step I⟩
theorem pdp_some (h : PDE X S W e d) : PDP X S W (some e) (dP d) := by
  obtain ⟨t, p, k⟩ := h.ex
  refine ⟨_, po_some p, fun env σ c μ Q I en q => ?_⟩
  show t σ c.H fun x H1 => ∃ i, x = .int i ∧ Q (some i) H1
  have q : OQ S W σ c Q ((d env μ).bind fun x μ1 => match x with
    | .int i => .ok (some i) μ1
    | _ => .stuck) := q
  refine k env σ c μ _ I en ?_
  cases e1 : d env μ with
  | ok x μ1 =>
    rw [e1] at q
    intro v c1 s1 I1 r1
    cases x with
    | int i => exact ⟨i, rep_int.mp r1, q c1 s1 I1⟩
    | _ => exact False.elim q
  | ex x ns l μ1 => rw [e1] at q; exact q
  | stuck => rw [e1] at q; exact q
def slc (μ : List M) (lo hi : Option Int) : D → Option D
  | .str z => if z.length ≤ 100000 then some (.str (cutS z lo hi)) else none
  | .tup l => if HT.sIx l.length 0 lo = 0 ∧ HT.sIx l.length l.length hi = l.length then none else some (.tup (cutL l lo hi))
  | x => match seqOf μ x with
    | some l => some (.lst (cutL l lo hi))
    | none => none
def dSlc (da : DE) (dl dh : En → List M → Out (Option Int)) : DE := fun env μ => (da env μ).bind fun x μ1 => (dl env μ1).bind fun lo μ2 => (dh env μ2).bind fun hi μ3 => match slc μ3 lo hi x with
  | some d => .ok d μ3
  | none => .stuck
theorem bindOE {σ : St} {c : Cf} {Q : VK} {t : TO} {R : Option Int → Hp → Prop} {o : Out (Option Int)} {f : Option Int → List M → Out D}
    (h : ∀ Q, OQ S W σ c Q o → t σ c.H Q) (k : EQ S W σ c Q (o.bind f)) (g : ∀ x μ c', Step S c c' → SI S c' μ → EQ S W σ c' Q (f x μ) → R x c'.H) : t σ c.H R := by
  refine h _ ?_
  cases o with
  | ok x μ => exact fun c' s I => g x μ c' s I (EQ.step s k)
  | ex x ns l μ => exact k
  | stuck => exact k
theorem okS_cut {z : Str} {lo hi : Option Int} (h : okS z = true) : okS (cutS z lo hi) = true := by
  unfold okS cutS at *
  rw [← Array.all_toList] at h ⊢
  rw [List.all_eq_true] at h ⊢
  intro x hx
  exact h x (List.mem_of_mem_drop (List.mem_of_mem_take (by simpa using hx)))
theorem pd_slc {lo hi : Option Expr} {p2 : Pos} {dl dh : En → List M → Out (Option Int)} (hK : X.K = S.K) (ha : PDE X S W a da) (hl : PDP X S W lo dl) (hh : PDP X S W hi dh) : PDE X S W (.Subscript a (.Slice lo hi none p2) pos) (dSlc da dl dh) := by
  obtain ⟨ta, pa, ka⟩ := ha.ex
  obtain ⟨tl, pl, kl⟩ := hl.ex
  obtain ⟨th, ph, kh⟩ := hh.ex
  have un : SlR X (fun x l h H Q => rSlL X.K x l h H Q ∨ rSlT X.K x l h H Q ∨ rSlS x l h H Q) := by
    intro pins s σ H x v vl vu lo hi sl Q I rx hs pl pu h
    rcases h with h | h | h
    · exact sl_list pins s σ H x v vl vu lo hi sl Q I rx hs pl pu h
    · exact sl_tup pins s σ H x v vl vu lo hi sl Q I rx hs pl pu h
    · exact sl_str pins s σ H x v vl vu lo hi sl Q I rx hs pl pu h
  refine ⟨_, pe_slice un pa pl ph, fun env σ c μ Q I en q => ?_⟩
  refine (show ta σ c.H fun x H1 => tl σ H1 fun l H2 => th σ H2 fun u H3 => rSlL X.K x l u H3 Q ∨ rSlT X.K x l u H3 Q ∨ rSlS x l u H3 Q from ?_)
  refine bindE (fun Q' => ka env σ c μ Q' I en) q fun x μ1 v c1 s1 I1 r1 q1 => ?_
  refine bindOE (fun Q' => kl env σ c1 μ1 Q' I1 (en.step s1)) q1 fun lo μ2 c2 s2 I2 q2 => ?_
  refine bindOE (fun Q' => kh env σ c2 μ2 Q' I2 ((en.step s1).step s2)) q2 fun hi μ3 c3 s3 I3 q3 => ?_
  have r3 := s3.rep (s2.rep r1)
  have ls : ∀ l, lstOf μ3 x = some l ∨ (∃ ns, x = .scr ns ∧ l = ns.map D.int) → EQ S W σ c3 Q (.ok (.lst (cutL l lo hi)) μ3) → rSlL X.K v lo hi c3.H Q := fun l hl q3 => by
    have go : ∀ p xs, v = .ref p → SqL S.K c3.H p xs → reps S c3.io c3.F l xs → rSlL X.K v lo hi c3.H Q := fun p xs ev hx r => by
      refine ⟨p, xs, ev, by rw [hK]; exact hx, fun z hz => new_lst I3 ?_ q3 hz⟩
      unfold cutL
      rw [r.len]
      exact (r.drop _).take _
    rcases hl with hl | ⟨ns, rfl, rfl⟩
    · obtain ⟨p, xs, ev, h2, h3⟩ := lst_at I3 r3 hl
      exact go p xs ev (sq_of h2) h3
    · unfold rep at r3
      obtain ⟨p, ev, h2⟩ := r3
      exact go p _ ev (ex_l I3.ex h2) (reps_ints ns)
  cases x with
  | str z =>
    dsimp only [slc] at q3
    by_cases hz : z.length ≤ 100000
    · rw [if_pos hz] at q3
      refine Or.inr (Or.inr ⟨z, (rep_str.mp r3).1, sz_of hz, q3 _ c3 I3.step I3 (rep_str.mpr ⟨rfl, okS_cut (rep_str.mp r3).2⟩)⟩)
    · rw [if_neg hz] at q3; exact False.elim q3
  | tup l =>
    dsimp only [slc] at q3
    by_cases hz : HT.sIx l.length 0 lo = 0 ∧ HT.sIx l.length l.length hi = l.length
    · rw [if_pos hz] at q3; exact False.elim q3
    · rw [if_neg hz] at q3
      unfold rep at r3
      obtain ⟨p, xs, ev, h2, h3⟩ := r3
      refine Or.inr (Or.inl ⟨p, xs, ev, by rw [hK]; exact ex_t I3.ex h2, by rw [← h3.len]; exact hz, fun z hz => new_tup I3 ?_ q3 hz⟩)
      unfold cutL
      rw [h3.len]
      exact (h3.drop _).take _
  | lst l => exact Or.inl (ls l (Or.inl rfl) q3)
  | cel i =>
    dsimp only [slc, seqOf] at q3
    cases e : μ3[i]? with
    | none => rw [e] at q3; exact False.elim q3
    | some m =>
      rw [e] at q3
      cases m with
      | lst l => exact Or.inl (ls l (Or.inl (by dsimp only [lstOf]; rw [e])) q3)
      | _ => exact False.elim q3
  | scr ns => exact Or.inl (ls _ (Or.inr ⟨ns, rfl, rfl⟩) q3)
  | _ => exact False.elim q3
/-! ### fields -/
def fldOf (f : Str) : List Str → List D → Option D
  | n :: ns, d :: l => if f = n then some d else fldOf f ns l
  | _, _ => none
def fldAt (μ : List M) (f : Str) : D → Option D
  | .obj _ ns l => fldOf f ns l
  | .cel i => match μ[i]? with
    | some (.obj _ ns l) => fldOf f ns l
    | _ => none
  | _ => none
def clsAt (μ : List M) : D → Option Str
  | .obj c _ _ => some c
  | .cel i => match μ[i]? with
    | some (.obj c _ _) => some c
    | _ => none
  | _ => none
theorem fld_reps {io : List Addr} {F : Hp} {f : Str} : ∀ {fs : List (Str × V)} {ns : List Str} {l : List D} {d : D}, fs.map (·.1) = ns → reps S io F l (fs.map (·.2)) → fldOf f ns l = some d → ∃ v, fs.lookup f = some v ∧ rep S io F d v
  | [], ns, l, d, e, r, h => by subst e; cases l <;> cases h
  | (n, v) :: fs, ns, l, d, e, r, h => by
    subst e
    cases l with
    | nil => cases h
    | cons d' l' =>
      obtain ⟨x, q, e1, r1, r2⟩ := r.uncons
      cases e1
      by_cases hf : f = n
      · have h' : (if f = n then some d' else fldOf f (fs.map (·.1)) l') = some d := h
        rw [if_pos hf] at h'
        cases h'
        exact ⟨v, by rw [List.lookup_cons, hf]; simp, r1⟩
      · have h' : (if f = n then some d' else fldOf f (fs.map (·.1)) l') = some d := h
        rw [if_neg hf] at h'
        obtain ⟨u, k1, k2⟩ := fld_reps rfl r2 h'
        refine ⟨u, ?_, k2⟩
        have hb : (f == n) = false := by simpa using hf
        rw [List.lookup_cons, hb]
        exact k1
/-- an instance, frozen or a cell -/
theorem obj_at {c : Cf} {μ : List M} {d : D} {v : V} {cl : Str} (I : SI S c μ) (r : rep S c.io c.F d v) (h : clsAt μ d = some cl) :
    ∃ a dx fs ns l, v = .ref a ∧ c.H a = some (.ins (S.A cl) dx fs) ∧ fs.map (·.1) = ns ∧ reps S c.io c.F l (fs.map (·.2)) ∧ (∀ f, fldAt μ f d = fldOf f ns l) ∧ cl ∈ S.cls := by
  cases d with
  | obj cl' ns l =>
    cases (show some cl' = some cl from h)
    unfold rep at r
    obtain ⟨a, dx, fs, h1, h2, h3, h4, h5⟩ := r
    exact ⟨a, dx, fs, ns, l, h1, I.ex _ _ h2, h3, h4, fun f => rfl, h5⟩
  | cel i =>
    unfold rep at r
    obtain ⟨a, h1, h2⟩ := r
    dsimp only [clsAt] at h
    cases e : μ[i]? with
    | none => rw [e] at h; cases h
    | some m =>
      rw [e] at h
      cases m with
      | obj cl' ns l =>
        cases (show some cl' = some cl from h)
        obtain ⟨_, dx, fs, k2, k3, k4⟩ := I.cell i a _ h2 e
        exact ⟨a, dx, fs, ns, l, h1, k2, k3, k4, fun f => by dsimp only [fldAt]; rw [e], I.cls i _ _ _ e⟩
      | _ => cases h
  | _ => cases h
/-- what is known of the own classes: their instances have plain attributes, no class has the field's name -/
def ClsOk (S : Sx) (f : Str) : Prop := ∀ c ∈ S.cls, Cls S.K (S.A c) ∧ NoAttr S.K (S.A c) f
def dFld (f : Str) (da : DE) : DE := fun env μ => (da env μ).bind fun x μ1 => match clsAt μ1 x with
  | some _ => match fldAt μ1 f x with
    | some d => .ok d μ1
    | none => .stuck
  | none => .stuck
theorem pd_fld {f : Str} (hK : X.K = S.K) (hc : ClsOk S f) (ha : PDE X S W a da) (hb : attributeBase a f X.env (eval a X.env) = eval a X.env := by rfl) : PDE X S W (.Attribute a f pos) (dFld f da) := by
  obtain ⟨ta, pa, ka⟩ := ha.ex
  refine ⟨_, pe_fld pa hb, fun env σ c μ Q I en q => ?_⟩
  refine (show ta σ c.H fun x H1 => ∃ a C dx fs v, x = .ref a ∧ H1 a = some (.ins C dx fs) ∧ Cls X.K C ∧ NoAttr X.K C f ∧ fs.lookup f = some v ∧ Q v H1 from ?_)
  refine bindE (fun Q' => ka env σ c μ Q' I en) q fun x μ1 v c1 s1 I1 r1 q1 => ?_
  cases e : clsAt μ1 x with
  | none => rw [e] at q1; exact False.elim q1
  | some cl =>
    rw [e] at q1
    cases e2 : fldAt μ1 f x with
    | none => rw [e2] at q1; exact False.elim q1
    | some d =>
      rw [e2] at q1
      obtain ⟨a, dx, fs, ns, l, rfl, h2, h3, h4, h5, hm⟩ := obj_at I1 r1 e
      rw [h5] at e2
      obtain ⟨u, k1, k2⟩ := fld_reps h3 h4 e2
      exact ⟨a, _, dx, fs, u, rfl, h2, by rw [hK]; exact (hc cl hm).1, by rw [hK]; exact (hc cl hm).2, k1, q1 u c1 I1.step I1 k2⟩
end
end DL
namespace DL
open PySem PySem.Spec PyProof.Rows L2
open Classical in
noncomputable def guard (g : List M → Prop) (μ : List M) : Bool := decide (g μ)
theorem guard_iff {g : List M → Prop} {μ : List M} : guard g μ = true ↔ g μ := by unfold guard; simp
@[simp] theorem guard_true {μ : List M} : guard (fun _ => True) μ = true := guard_iff.mpr trivial
/-! ### targets -/
abbrev DG := D → En → List M → Option En
def Agree (js : List Nat) (σ σ' : St) : Prop := σ'.length = σ.length ∧ ∀ i, i ∉ js → σ'[i]? = σ[i]?
structure PDG (X : Cx) (S : Sx) (tg : Expr) (dg : DG) (js : List Nat) : Prop where
  ex : ∃ g, PG X tg g ∧ ∀ env σ c μ d v env' Q, SI S c μ → EnvOk S c env σ → rep S c.io c.F d v → dg d env μ = some env' → (∀ σ', EnvOk S c env' σ' → Agree js σ σ' → Q σ' c.H) → g v σ c.H Q
structure PDGs (X : Cx) (S : Sx) (tgs : List Expr) (dg : List D → En → List M → Option En) (js : List Nat) : Prop where
  ex : ∃ g, PGs X tgs g ∧ ∀ env σ c μ l vs env' Q, SI S c μ → EnvOk S c env σ → reps S c.io c.F l vs → dg l env μ = some env' → (∀ σ', EnvOk S c env' σ' → Agree js σ σ' → Q σ' c.H) → g vs σ c.H Q
@[simp] def gNm (i : Nat) : DG := fun d env _ => some (env.set i (some d))
@[simp] def gsNil : List D → En → List M → Option En := fun l env _ => match l with
  | [] => some env
  | _ => none
def gsCons (g : DG) (gs : List D → En → List M → Option En) : List D → En → List M → Option En := fun l env μ => match l with
  | d :: l => match g d env μ with
    | some env1 => gs l env1 μ
    | none => none
  | [] => none
def gSeq (n : Nat) (gs : List D → En → List M → Option En) : DG := fun d env μ => match seqOf μ d with
  | some l => if l.length = n then gs l env μ else none
  | none => none
section
variable {X : Cx} {S : Sx} {W : WX} {a b e tg : Expr} {es : List Expr} {da db d : DE} {dt : DT} {pos : Pos} {k : Nat}
theorem Agree.trans {js js' : List Nat} {σ σ1 σ2 : St} (a : Agree js σ σ1) (b : Agree js' σ1 σ2) : Agree (js ++ js') σ σ2 :=
  ⟨b.1.trans a.1, fun i h => (b.2 i fun q => h (List.mem_append_right _ q)).trans (a.2 i fun q => h (List.mem_append_left _ q))⟩
theorem pdg_name {i : Nat} {x : Str} (hN : X.N.Nodup) (hi : X.N[i]? = some x) (hx : Loc X.env.scope x) (hf : X.fn x = true ∨ X.env.scope.names.lookup x = some .local := by first | exact .inl rfl | exact .inr rfl) : PDG X S (.Name x pos) (gNm i) [i] := by
  refine ⟨_, pg_name hN hi hx hf, fun env σ c μ d v env' Q I en r e k => ?_⟩
  cases (show some (env.set i (some d)) = some env' from e)
  exact k _ (en.set r i) ⟨List.length_set, fun j h => List.getElem?_set_ne fun z => h (by simp [z])⟩
theorem pdgs_nil : PDGs X S [] gsNil [] := by
  refine ⟨_, pgs_nil, fun env σ c μ l vs env' Q I en r e k => ?_⟩
  cases l with
  | nil =>
    cases (show some env = some env' from e)
    exact ⟨r.eq_nil, k σ en ⟨rfl, fun _ _ => rfl⟩⟩
  | cons _ _ => cases e
theorem pdgs_cons {g : DG} {gs : List D → En → List M → Option En} {js js' : List Nat} (h1 : PDG X S e g js) (h2 : PDGs X S es gs js') (hs : (assignEach (e :: es) X.env).map (·.2) = assign e X.env :: (assignEach es X.env).map (·.2) := by rfl) : PDGs X S (e :: es) (gsCons g gs) (js ++ js') := by
  obtain ⟨t1, p1, k1⟩ := h1.ex
  obtain ⟨t2, p2, k2⟩ := h2.ex
  refine ⟨_, pgs_cons p1 p2 hs, fun env σ c μ l vs env' Q I en r e k => ?_⟩
  cases l with
  | nil => cases e
  | cons d l =>
    obtain ⟨x, q, rfl, r1, r2⟩ := r.uncons
    have e : (match g d env μ with
      | some env1 => gs l env1 μ
      | none => none) = some env' := e
    cases e1 : g d env μ with
    | none => rw [e1] at e; cases e
    | some env1 =>
      rw [e1] at e
      refine ⟨x, q, rfl, k1 env σ c μ d x env1 _ I en r1 e1 fun σ1 en1 a1 => ?_⟩
      exact k2 env1 σ1 c μ l q env' _ I en1 r2 e fun σ2 en2 a2 => k σ2 en2 (a1.trans a2)
theorem pdg_tup {n : Nat} {gs : List D → En → List M → Option En} {js : List Nat} (hK : X.K = S.K) (hc : X.calm = true) (h : PDGs X S es gs js) (hn : (assignEach es X.env).length = n := by rfl) (hst : (assignEach es X.env).findIdx? (·.1) = none := by rfl) :
    PDG X S (.Tuple es k pos) (gSeq n gs) js := by
  obtain ⟨t, p, kk⟩ := h.ex
  have P1 := pg_tup (k := k) (pos := pos) hc p hn hst
  have P2 := pg_lst (k := k) (pos := pos) hc p hn hst
  refine ⟨fun v σ H Q => gTup X.K n t v σ H Q ∨ gLst X.K n t v σ H Q, ⟨fun pins s σ H v u Q I r h => ?_⟩, fun env σ c μ d v env' Q I en r e k => ?_⟩
  · rcases h with h | h
    · exact P1.run pins s σ H v u Q I r h
    · exact P2.run pins s σ H v u Q I r h
  · have e : (match seqOf μ d with
      | some l => if l.length = n then gs l env μ else none
      | none => none) = some env' := e
    cases e1 : seqOf μ d with
    | none => rw [e1] at e; cases e
    | some l =>
      rw [e1] at e
      dsimp only at e
      by_cases hl : l.length = n
      · rw [if_pos hl] at e
        obtain ⟨a, xs, rfl, h2, h3⟩ := seq_at I r e1
        have hx : xs.length = n := by rw [← h3.len]; exact hl
        have fin := kk env σ c μ l xs env' Q I en h3 e k
        rcases h2 with h2 | h2
        · exact Or.inr ⟨a, xs, rfl, by rw [hK]; exact h2, hx, fin⟩
        · exact Or.inl ⟨a, xs, rfl, by rw [hK]; exact h2, hx, fin⟩
      · rw [if_neg hl] at e; cases e
/-! ### what is walked -/
structure WalkD (S : Sx) (J : It) (l : List D) (g : List M → Prop) (c : Cf) : Prop where
  ex : ∃ G Y, Walk J l.length G Y ∧ (∀ c2 μ2, Step S c c2 → SI S c2 μ2 → g μ2 → G c2.H) ∧
    ∀ i x H' c2 μ2, i < l.length → Step S c c2 → SI S c2 μ2 → g μ2 → Y i c2.H x H' → ∃ c3 d, c3.H = H' ∧ Step S c2 c3 ∧ SI S c3 μ2 ∧ l[i]? = some d ∧ rep S c3.io c3.F d x
theorem WalkD.step {J : It} {l : List D} {g : List M → Prop} {c c' : Cf} (w : WalkD S J l g c) (s : Step S c c') : WalkD S J l g c' := by
  obtain ⟨G, Y, w1, w2, w3⟩ := w.ex
  exact ⟨G, Y, w1, fun c2 μ2 s2 => w2 c2 μ2 (s.trans s2), fun i x H' c2 μ2 hi s2 => w3 i x H' c2 μ2 hi (s.trans s2)⟩
abbrev DI := En → List M → Out (List D × (List M → Prop))
def IQ (S : Sx) (W : WX) (σ : St) (c : Cf) (R : It → Hp → Prop) : Out (List D × (List M → Prop)) → Prop
  | .ok lg μ => ∀ J c', Step S c c' → SI S c' μ → WalkD S J lg.1 lg.2 c' → R J c'.H
  | .ex x ns l μ => XQ S W σ c x ns l μ
  | .stuck => False
structure PDI (X : Cx) (S : Sx) (W : WX) (tg iter : Expr) (di : DI) : Prop where
  ex : ∃ wi, PI X tg iter wi ∧ ∀ env σ c μ R, SI S c μ → EnvOk S c env σ → IQ S W σ c R (di env μ) → wi σ c.H R
/-- over a list -/
def iSeq (da : DE) : DI := fun env μ => (da env μ).bind fun x μ1 => match x with
  | .tup _ => .stuck
  | _ => match seqOf μ1 x with
    | some l => .ok (l, fun μ2 => seqOf μ2 x = some l) μ1
    | none => .stuck
/-- over a tuple -/
def iTupD (da : DE) : DI := fun env μ => (da env μ).bind fun x μ1 => match x with
  | .tup l => .ok (l, fun _ => True) μ1
  | _ => .stuck
theorem bindEI {σ : St} {c : Cf} {Q : It → Hp → Prop} {t : TE} {R : V → Hp → Prop} {o : Out D} {f : D → List M → Out (List D × (List M → Prop))}
    (h : ∀ Q, EQ S W σ c Q o → t σ c.H Q) (k : IQ S W σ c Q (o.bind f)) (g : ∀ x μ v c', Step S c c' → SI S c' μ → rep S c'.io c'.F x v → IQ S W σ c' Q (f x μ) → R v c'.H) : t σ c.H R := by
  refine h _ ?_
  cases o with
  | ok x μ =>
    have k : IQ S W σ c Q (f x μ) := k
    refine fun v c' s I r => g x μ v c' s I r ?_
    cases e : f x μ with
    | ok lg μ2 => rw [e] at k; exact fun J c2 s2 => k J c2 (s.trans s2)
    | ex x ns l μ2 => rw [e] at k; exact XQ.step s k
    | stuck => rw [e] at k; exact k
  | ex x ns l μ => exact k
  | stuck => exact k
/-- where a datum's items are read off a list -/
theorem seq_same {c : Cf} {μ : List M} {d : D} {v : V} {l : List D} (I : SI S c μ) (r : rep S c.io c.F d v) (h : seqOf μ d = some l) (hl : ∀ t, d ≠ .tup t) : ∃ a xs, v = .ref a ∧ SqL S.K c.H a xs ∧ reps S c.io c.F l xs := by
  cases d with
  | tup t => exact absurd rfl (hl t)
  | lst l' =>
    obtain ⟨a, xs, h1, h2, h3⟩ := lst_at I r (show lstOf μ (.lst l') = some l from h)
    exact ⟨a, xs, h1, sq_of h2, h3⟩
  | cel i =>
    obtain ⟨a, xs, h1, h2, h3⟩ := lst_at I r (show lstOf μ (.cel i) = some l from h)
    exact ⟨a, xs, h1, sq_of h2, h3⟩
  | scr ns =>
    unfold rep at r
    obtain ⟨a, h1, h2⟩ := r
    cases (show some (ns.map D.int) = some l from h)
    exact ⟨a, _, h1, ex_l I.ex h2, reps_ints ns⟩
  | _ => cases h
theorem Itl_walk {K : PySem.W.Frag} {a : Addr} {n : Nat} : Walk (Itl K a) n (fun H => ∃ xs, SqL K H a xs ∧ xs.length = n) (fun i H x H' => H' = H ∧ ∀ xs, SqL K H a xs → xs[i]? = some x) :=
  ⟨fun i _ hi ⟨xs, q, e⟩ => ⟨xs, xs[i]'(by omega), q, by simp⟩, fun _ ⟨xs, q, e⟩ => ⟨xs, q, Nat.le_of_eq e⟩, fun _ _ _ _ _ _ y => ⟨y.1, y.2⟩⟩
theorem Itt_walk {K : PySem.W.Frag} {a : Addr} {n : Nat} : Walk (Itt K a) n (fun H => ∃ xs, SqT K H a xs ∧ xs.length = n) (fun i H x H' => H' = H ∧ ∀ xs, SqT K H a xs → xs[i]? = some x) :=
  ⟨fun i _ hi ⟨xs, q, e⟩ => ⟨xs, xs[i]'(by omega), q, by simp⟩, fun _ ⟨xs, q, e⟩ => ⟨xs, q, Nat.le_of_eq e⟩, fun _ _ _ _ _ _ y => ⟨y.1, y.2⟩⟩
theorem pdi_tup (hK : X.K = S.K) (ha : PDE X S W a da) : PDI X S W tg a (iTupD da) := by
  obtain ⟨ta, pa, ka⟩ := ha.ex
  refine ⟨_, pi_tup pa, fun env σ c μ R I en q => ?_⟩
  refine (show ta σ c.H fun x H1 => ∃ a, x = .ref a ∧ (∃ xs, SqT X.K H1 a xs) ∧ R (Itt X.K a) H1 from ?_)
  refine bindEI (fun Q' => ka env σ c μ Q' I en) q fun x μ1 v c1 s1 I1 r1 q1 => ?_
  cases x with
  | tup l =>
    have r1' := r1
    unfold rep at r1
    obtain ⟨p, xs, rfl, h2, h3⟩ := r1
    rw [hK]
    refine ⟨p, rfl, ⟨xs, ex_t I1.ex h2⟩, q1 _ c1 I1.step I1 ⟨_, _, Itt_walk, fun c2 μ2 s2 I2 _ => ⟨xs, ex_t I2.ex (ex_t s2.exF h2), h3.len.symm⟩, fun i x H' c2 μ2 hi s2 I2 _ y => ?_⟩⟩
    obtain ⟨rfl, y⟩ := y
    have hx := y xs (ex_t I2.ex (ex_t s2.exF h2))
    obtain ⟨d, k1, k2⟩ := h3.getV hx
    exact ⟨c2, d, rfl, I2.step, I2, k1, s2.rep k2⟩
  | _ => exact False.elim q1
theorem pdi_seq (hK : X.K = S.K) (ha : PDE X S W a da) : PDI X S W tg a (iSeq da) := by
  obtain ⟨ta, pa, ka⟩ := ha.ex
  refine ⟨_, pi_list pa, fun env σ c μ R I en q => ?_⟩
  refine (show ta σ c.H fun x H1 => ∃ a, x = .ref a ∧ (∃ xs, SqL X.K H1 a xs) ∧ R (Itl X.K a) H1 from ?_)
  refine bindEI (fun Q' => ka env σ c μ Q' I en) q fun x μ1 v c1 s1 I1 r1 q1 => ?_
  have go : ∀ l, seqOf μ1 x = some l → (∀ t, x ≠ .tup t) → IQ S W σ c1 R (.ok (l, fun μ2 => seqOf μ2 x = some l) μ1) → ∃ a, v = .ref a ∧ (∃ xs, SqL X.K c1.H a xs) ∧ R (Itl X.K a) c1.H := fun l e1 nt q1 => by
    obtain ⟨p, xs, rfl, h2, h3⟩ := seq_same I1 r1 e1 nt
    rw [hK]
    refine ⟨p, rfl, ⟨xs, h2⟩, q1 _ c1 I1.step I1 ⟨_, _, Itl_walk, fun c2 μ2 s2 I2 e2 => ?_, fun i x2 H' c2 μ2 hi s2 I2 e2 y => ?_⟩⟩
    · obtain ⟨p2, ys, ep, k2, k3⟩ := seq_same I2 (s2.rep r1) e2 nt
      cases ep
      exact ⟨ys, k2, k3.len.symm⟩
    · obtain ⟨rfl, y⟩ := y
      obtain ⟨p2, ys, ep, k2, k3⟩ := seq_same I2 (s2.rep r1) e2 nt
      cases ep
      obtain ⟨d, m1, m2⟩ := k3.getV (y ys k2)
      exact ⟨c2, d, rfl, I2.step, I2, m1, m2⟩
  cases x with
  | tup l => exact False.elim q1
  | lst l => exact go l rfl (fun _ z => nomatch z) q1
  | scr ns => exact go _ rfl (fun _ z => nomatch z) q1
  | cel i =>
    cases e : seqOf μ1 (.cel i) with
    | none =>
      dsimp only at q1
      rw [e] at q1; exact False.elim q1
    | some l =>
      dsimp only at q1
      rw [e] at q1; exact go l e (fun _ z => nomatch z) q1
  | _ => exact False.elim q1
/-- over a text's signs -/
def signs (z : Str) : List D := z.cps.toList.map fun n => D.str ⟨#[n]⟩
def iStrD (da : DE) : DI := fun env μ => (da env μ).bind fun x μ1 => match x with
  | .str z => .ok (signs z, fun _ => True) μ1
  | _ => .stuck
theorem okS_mem {z : Str} {n : Nat} (h : okS z = true) (m : n ∈ z.cps.toList) : okS ⟨#[n]⟩ = true := by
  unfold okS at h ⊢
  rw [← Array.all_toList] at h ⊢
  have := List.all_eq_true.mp h n m
  simpa using this
theorem pdi_str (ha : PDE X S W a da) : PDI X S W tg a (iStrD da) := by
  obtain ⟨ta, pa, ka⟩ := ha.ex
  refine ⟨_, pi_str pa, fun env σ c μ R I en q => ?_⟩
  refine (show ta σ c.H fun v H1 => ∃ x, v = .str x ∧ R (Its x) H1 from ?_)
  refine bindEI (fun Q' => ka env σ c μ Q' I en) q fun x μ1 v c1 s1 I1 r1 q1 => ?_
  cases x with
  | str z =>
    have hz : (signs z).length = z.cps.size := by unfold signs; rw [List.length_map, Array.length_toList]
    refine ⟨z, (rep_str.mp r1).1, q1 _ c1 I1.step I1 ⟨_, _, by rw [show (signs z, fun _ => True).1 = signs z from rfl, hz]; exact walk_str, fun _ _ _ _ _ => trivial, fun i x H' c2 μ2 hi s2 I2 _ y => ?_⟩⟩
    obtain ⟨rfl, n, hn, rfl⟩ := y
    have hn' : z.cps.toList[i]? = some n := by rw [Array.getElem?_toList]; exact hn
    refine ⟨c2, .str ⟨#[n]⟩, rfl, I2.step, I2, ?_, rep_str.mpr ⟨rfl, okS_mem (rep_str.mp r1).2 (List.mem_of_getElem? hn')⟩⟩
    show (signs z)[i]? = _
    unfold signs
    rw [List.getElem?_map, hn']; rfl
  | _ => exact False.elim q1
/-- over range(n), range(a, b) -/
def iota (lo : Int) (n : Nat) : List D := (List.range n).map fun i => D.int (lo + (i : Nat))
def iRng (ds : DA) : DI := fun env μ => (ds env μ).bind fun l μ1 => match l with
  | [.int n] => if -(2 ^ 62) ≤ n ∧ n < 2 ^ 62 then .ok (iota 0 n.toNat, fun _ => True) μ1 else .stuck
  | _ => .stuck
def iRngTwo (ds : DA) : DI := fun env μ => (ds env μ).bind fun l μ1 => match l with
  | [.int a, .int b] => if -(2 ^ 62) ≤ a ∧ a < 2 ^ 62 ∧ -(2 ^ 62) ≤ b ∧ b < 2 ^ 62 then .ok (iota a (b - a).toNat, fun _ => True) μ1 else .stuck
  | _ => .stuck
theorem walkD_iota {lo : Int} {n : Nat} {c : Cf} : WalkD S (Itr lo n) (iota lo n) (fun _ => True) c := by
  have hz : (iota lo n).length = n := by unfold iota; rw [List.length_map, List.length_range]
  refine ⟨_, _, by rw [hz]; exact walk_range, fun _ _ _ _ _ => trivial, fun i x H' c2 μ2 hi s2 I2 _ y => ?_⟩
  obtain ⟨rfl, rfl⟩ := y
  refine ⟨c2, .int (lo + (i : Nat)), rfl, I2.step, I2, ?_, rep_int.mpr rfl⟩
  rw [hz] at hi
  unfold iota
  rw [List.getElem?_map, List.getElem?_range hi]; rfl
theorem bindAI {σ : St} {c : Cf} {Q : It → Hp → Prop} {t : TA} {R : List V → Hp → Prop} {o : Out (List D)} {f : List D → List M → Out (List D × (List M → Prop))}
    (h : ∀ Q, AQ S W σ c Q o → t σ c.H Q) (k : IQ S W σ c Q (o.bind f)) (g : ∀ x μ v c', Step S c c' → SI S c' μ → reps S c'.io c'.F x v → IQ S W σ c' Q (f x μ) → R v c'.H) : t σ c.H R := by
  refine h _ ?_
  cases o with
  | ok x μ =>
    have k : IQ S W σ c Q (f x μ) := k
    refine fun v c' s I r => g x μ v c' s I r ?_
    cases e : f x μ with
    | ok lg μ2 => rw [e] at k; exact fun J c2 s2 => k J c2 (s.trans s2)
    | ex x ns l μ2 => rw [e] at k; exact XQ.step s k
    | stuck => rw [e] at k; exact k
  | ex x ns l μ => exact k
  | stuck => exact k
variable {ds : DA}
theorem pdi_range1 {p : Pos} (hg : Gl X "range") (hm : X.mg "range" = none) (ha : PDA X S W [a] ds) (hs : starEach [a] X.env = [(false, eval a X.env)] := by rfl) : PDI X S W tg (.Call (.Name "range" p) [a] [] pos) (iRng ds) := by
  obtain ⟨ta, pa, ka⟩ := ha.ex
  refine ⟨_, pi_range1 hg hm pa hs, fun env σ c μ R I en q => ?_⟩
  refine (show ta σ c.H fun vs H1 => ∃ j : Int, vs = [.int j] ∧ -(2 ^ 62) ≤ j ∧ j < 2 ^ 62 ∧ R (Itr 0 j.toNat) H1 from ?_)
  refine bindAI (fun Q' => ka env σ c μ Q' I en) q fun x μ1 v c1 s1 I1 r1 q1 => ?_
  split at q1
  · rename_i n
    by_cases h : -(2 ^ 62) ≤ n ∧ n < 2 ^ 62
    · rw [if_pos h] at q1
      obtain ⟨y, r, rfl, h1, h2⟩ := r1.uncons
      rw [h2.eq_nil, rep_int.mp h1]
      exact ⟨n, rfl, h.1, h.2, q1 _ c1 I1.step I1 walkD_iota⟩
    · rw [if_neg h] at q1; exact False.elim q1
  · exact False.elim q1
/-! ### for -/
noncomputable def forGo (g : List M → Prop) (tg : DG) (body : DS) : List D → En → List M → SO
  | [], env, μ => if guard g μ = true then .nx env μ else .stuck
  | x :: xs, env, μ => if guard g μ = true then match tg x env μ with
    | some env1 => match body env1 μ with
      | .nx e m => forGo g tg body xs e m
      | .ct e m => forGo g tg body xs e m
      | .bk e m => .nx e m
      | o => o
    | none => .stuck
    else .stuck
noncomputable def dFor (di : DI) (tg : DG) (body : DS) : DS := fun env μ => (di env μ).bindS env fun lg μ1 => forGo lg.2 tg body lg.1 env μ1
theorem pds_for {iter : Expr} {body : List Stmt} {di : DI} {dg : DG} {db : DS} {js : List Nat} (hp : PassesOwn (model X.prog X.w) X.A X.env X.xe) (hc : X.calm = true) (hi : PDI X S W tg iter di) (hg : PDG X S tg dg js) (hb : PDSs X S W body db)
    (hs : ∀ x, foldedSetIterable iter X.env x = pure x := by intro _; rfl) : PDS X S W (.For tg iter body [] pos) (dFor di dg db) := by
  obtain ⟨wi, pi, ki⟩ := hi.ex
  obtain ⟨g, pg, kg⟩ := hg.ex
  obtain ⟨tb, pb, kb⟩ := hb.ex
  refine ⟨_, ps_for hp hc pi pg pb hs, fun env σ c μ E I en q => ?_⟩
  have q : SQ S W c E ((di env μ).bindS env fun lg μ1 => forGo lg.2 dg db lg.1 env μ1) := q
  refine ki env σ c μ _ I en ?_
  cases e : di env μ with
  | stuck => rw [e] at q; exact q
  | ex x ns l μ1 =>
    rw [e] at q
    exact fun dd c' s I' r => q dd σ c' s I' (en.step s) r
  | ok lg μ1 =>
    obtain ⟨l, gd⟩ := lg
    rw [e] at q
    have q : SQ S W c E (forGo gd dg db l env μ1) := q
    intro J c1 s1 I1 w
    obtain ⟨G, Y, w1, w2, w3⟩ := w.ex
    refine for_it w1 (fun i σ' H' => ∃ env' c' μ', c'.H = H' ∧ Step S c1 c' ∧ SI S c' μ' ∧ EnvOk S c' env' σ' ∧ SQ S W c' E (forGo gd dg db (l.drop i) env' μ')) ?_ ?_ ?_ ?_
    · exact ⟨env, c1, μ1, rfl, I1.step, I1, en.step s1, q.step s1⟩
    · rintro i σ' H' hi ⟨env', c', μ', rfl, s', I', en', q'⟩
      refine w2 c' μ' s' I' ?_
      cases ed : l.drop i with
      | nil =>
        rw [ed] at q'
        unfold forGo at q'
        by_cases h : guard gd μ' = true
        · exact guard_iff.mp h
        · rw [if_neg h] at q'; exact False.elim q'
      | cons d r =>
        rw [ed] at q'
        unfold forGo at q'
        by_cases h : guard gd μ' = true
        · exact guard_iff.mp h
        · rw [if_neg h] at q'; exact False.elim q'
    · rintro i x σ' H' H2 hi ⟨env', c', μ', rfl, s', I', en', q'⟩ y
      have ed : l.drop i = l[i] :: l.drop (i + 1) := List.drop_eq_getElem_cons hi
      rw [ed] at q'
      unfold forGo at q'
      by_cases h : guard gd μ' = true
      · rw [if_pos h] at q'
        obtain ⟨c3, d, rfl, s3, I3, e3, r3⟩ := w3 i x H2 c' μ' hi s' I' (guard_iff.mp h) y
        rw [List.getElem?_eq_getElem hi] at e3
        rw [Option.some.inj e3] at q'
        cases et : dg d env' μ' with
        | none => rw [et] at q'; exact False.elim q'
        | some env1 =>
          rw [et] at q'
          dsimp only at q'
          refine kg env' σ' c3 μ' d x env1 _ I3 (en'.step s3) r3 et fun σ1 en1 _ => ?_
          refine kb env1 σ1 c3 μ' _ I3 en1 ?_
          have q' := SQ.step s3 q'
          cases eb : db env1 μ' with
          | nx e m =>
            rw [eb] at q'
            exact fun σ4 c4 s4 I4 en4 => ⟨e, c4, m, rfl, (s'.trans s3).trans s4, I4, en4, q'.step s4⟩
          | ct e m =>
            rw [eb] at q'
            exact fun σ4 c4 s4 I4 en4 => ⟨e, c4, m, rfl, (s'.trans s3).trans s4, I4, en4, q'.step s4⟩
          | bk e m =>
            rw [eb] at q'
            exact q'
          | rt d m =>
            rw [eb] at q'
            exact q'
          | ex x ns l e m =>
            rw [eb] at q'
            exact q'
          | stuck =>
            rw [eb] at q'
            exact q'
      · rw [if_neg h] at q'; exact False.elim q'
    · rintro σ' H' ⟨env', c', μ', rfl, s', I', en', q'⟩
      rw [List.drop_length] at q'
      unfold forGo at q'
      by_cases h : guard gd μ' = true
      · rw [if_pos h] at q'
        exact q' σ' c' I'.step I' en'
      · rw [if_neg h] at q'; exact False.elim q'
end
end DL
namespace DL
open PySem PySem.Spec PyProof.Rows L2
section
variable {X : Cx} {S : Sx} {W : WX} {a b e tg : Expr} {es : List Expr} {da db d : DE} {dt : DT} {ds : DA} {pos : Pos} {k : Nat} {st : Stmt} {rest sa sb : List Stmt} {s1 s2 : DS}
/-! ### blocks, small statements -/
@[simp] def sNil : DS := fun env μ => .nx env μ
def sSeq (a b : DS) : DS := fun env μ => (a env μ).bind b
theorem pdss_nil : PDSs X S W [] sNil := ⟨_, pss_nil, fun env σ c μ E I en q => q σ c I.step I en⟩
theorem seq_run {t1 t2 : TS} (k1 : ∀ env σ c μ E, SI S c μ → EnvOk S c env σ → SQ S W c E (s1 env μ) → t1 E σ c.H) (k2 : ∀ env σ c μ E, SI S c μ → EnvOk S c env σ → SQ S W c E (s2 env μ) → t2 E σ c.H) :
    ∀ env σ c μ E, SI S c μ → EnvOk S c env σ → SQ S W c E (sSeq s1 s2 env μ) → tSeq t1 t2 E σ c.H := by
  intro env σ c μ E I en q
  have q : SQ S W c E ((s1 env μ).bind s2) := q
  refine k1 env σ c μ { E with nx := t2 E } I en ?_
  cases e : s1 env μ with
  | nx en1 m => rw [e] at q; exact fun σ' c' s I' en' => k2 en1 σ' c' m E I' en' (SQ.step s q)
  | rt d m => rw [e] at q; exact q
  | bk e1 m => rw [e] at q; exact q
  | ct e1 m => rw [e] at q; exact q
  | ex x ns l e1 m => rw [e] at q; exact q
  | stuck => rw [e] at q; exact q
theorem pdss_cons (h1 : PDS X S W st s1) (h2 : PDSs X S W rest s2) : PDSs X S W (st :: rest) (sSeq s1 s2) := by
  obtain ⟨t1, p1, k1⟩ := h1.ex
  obtain ⟨t2, p2, k2⟩ := h2.ex
  exact ⟨_, pss_cons p1 p2, seq_run k1 k2⟩
theorem pdss_one (h1 : PDS X S W st s1) : PDSs X S W [st] s1 := by
  obtain ⟨t1, p1, k1⟩ := h1.ex
  exact ⟨_, pss_one p1, k1⟩
@[simp] def sBrk : DS := fun env μ => .bk env μ
@[simp] def sCnt : DS := fun env μ => .ct env μ
def sExp (d : DE) : DS := fun env μ => (d env μ).bindS env fun _ μ1 => .nx env μ1
theorem pds_exp (he : PDE X S W e d) (hs : swapsWith e none pos.line X.env = pure false := by rfl) : PDS X S W (.Expr e pos) (sExp d) := by
  obtain ⟨t, p, k⟩ := he.ex
  refine ⟨_, ps_expr p hs, fun env σ c μ E I en q => ?_⟩
  refine (show t σ c.H fun _ H1 => E.nx σ H1 from ?_)
  exact bindES en (fun Q' => k env σ c μ Q' I en) q fun x μ1 v c1 s1 I1 r1 q1 => q1 σ c1 I1.step I1 (en.step s1)
def sRet (d : DE) : DS := fun env μ => (d env μ).bindS env fun x μ1 => .rt x μ1
theorem pds_ret (he : PDE X S W e d) : PDS X S W (.Return (some e) pos) (sRet d) := by
  obtain ⟨t, p, k⟩ := he.ex
  refine ⟨_, ps_ret p, fun env σ c μ E I en q => ?_⟩
  refine (show t σ c.H E.rt from ?_)
  exact bindES en (fun Q' => k env σ c μ Q' I en) q fun x μ1 v c1 s1 I1 r1 q1 => q1 v c1 I1.step I1 r1
@[simp] def sRetN : DS := fun _ μ => .rt .non μ
def sIf (t : DT) (a b : DS) : DS := fun env μ => (t env μ).bindS env fun k μ1 => if k = true then a env μ1 else b env μ1
theorem pds_if (hc : PDT X S W e dt) (ha : PDSs X S W sa s1) (hb : PDSs X S W sb s2) : PDS X S W (.If e sa sb pos) (sIf dt s1 s2) := by
  obtain ⟨t, p, k⟩ := hc.ex
  obtain ⟨t1, p1, k1⟩ := ha.ex
  obtain ⟨t2, p2, k2⟩ := hb.ex
  refine ⟨_, ps_if p p1 p2, fun env σ c μ E I en q => ?_⟩
  refine (show t σ c.H fun b H1 => if b = true then t1 E σ H1 else t2 E σ H1 from ?_)
  refine bindTS en (fun Q' => k env σ c μ Q' I en) q fun x μ1 c1 s1 I1 q1 => ?_
  cases x with
  | true => exact iteT (k1 env σ c1 μ1 E I1 (en.step s1) q1)
  | false => exact iteF (k2 env σ c1 μ1 E I1 (en.step s1) q1)
/-! ### assignments -/
def sAsg (d : DE) (g : DG) : DS := fun env μ => (d env μ).bindS env fun x μ1 => match g x env μ1 with
  | some env1 => .nx env1 μ1
  | none => .stuck
theorem asg_run {t : TE} {g : TG} {dg : DG} {js : List Nat} (k : ∀ env σ c μ Q, SI S c μ → EnvOk S c env σ → EQ S W σ c Q (d env μ) → t σ c.H Q)
    (kg : ∀ env σ c μ d v env' Q, SI S c μ → EnvOk S c env σ → rep S c.io c.F d v → dg d env μ = some env' → (∀ σ', EnvOk S c env' σ' → Agree js σ σ' → Q σ' c.H) → g v σ c.H Q) :
    ∀ env σ c μ E, SI S c μ → EnvOk S c env σ → SQ S W c E (sAsg d dg env μ) → tAsg t g E σ c.H := by
  intro env σ c μ E I en q
  refine (show t σ c.H fun x H1 => g x σ H1 E.nx from ?_)
  refine bindES en (fun Q' => k env σ c μ Q' I en) q fun x μ1 v c1 s1 I1 r1 q1 => ?_
  cases e1 : dg x env μ1 with
  | none => rw [e1] at q1; exact False.elim q1
  | some env1 =>
    rw [e1] at q1
    exact kg env σ c1 μ1 x v env1 _ I1 (en.step s1) r1 e1 fun σ' en' _ => q1 σ' c1 I1.step I1 en'
theorem pds_set {i : Nat} {x : Str} {pos' : Pos} (hN : X.N.Nodup) (hi : X.N[i]? = some x) (hx : Loc X.env.scope x) (he : PDE X S W e d) (hs : swapsWith e (some (.Name x pos')) pos.line X.env = pure false := by rfl)
    (hf : X.fn x = true ∨ X.env.scope.names.lookup x = some .local := by first | exact .inl rfl | exact .inr rfl) : PDS X S W (.Assign [.Name x pos'] e pos) (sAsg d (gNm i)) := by
  obtain ⟨t, p, k⟩ := he.ex
  refine ⟨_, ps_set hN hi hx p hs hf, asg_run (js := [i]) k fun env σ c μ d v env' Q I en r e k => ?_⟩
  cases (show some (env.set i (some d)) = some env' from e)
  exact k _ (en.set r i) ⟨List.length_set, fun j h => List.getElem?_set_ne fun z => h (by simp [z])⟩
theorem pds_asg {dg : DG} {js : List Nat} (he : PDE X S W e d) (hg : PDG X S tg dg js) (hs : swapsWithSole [tg] e pos.line X.env = pure false := by rfl) (hw : swappedStores [tg] e X.env = pure none := by rfl)
    (h1 : (assignEach [tg] X.env).map (·.2) = [assign tg X.env] := by rfl) : PDS X S W (.Assign [tg] e pos) (sAsg d dg) := by
  obtain ⟨t, p, k⟩ := he.ex
  obtain ⟨g, pg, kg⟩ := hg.ex
  exact ⟨_, ps_asg p pg hs hw h1, asg_run k kg⟩
/-- x = [a, ..], a cell -/
def sCel (i : Nat) (ds : DA) : DS := fun env μ => (ds env μ).bindS env fun l μ1 => if l.length ≤ 100000 then .nx (env.set i (some (.cel μ1.length))) (μ1 ++ [.lst l]) else .stuck
theorem bindAS {σ : St} {c : Cf} {E : Ends} {env : En} {t : TA} {R : List V → Hp → Prop} {o : Out (List D)} {f : List D → List M → SO}
    (en : EnvOk S c env σ) (h : ∀ Q, AQ S W σ c Q o → t σ c.H Q) (k : SQ S W c E (o.bindS env f)) (g : ∀ x μ v c', Step S c c' → SI S c' μ → reps S c'.io c'.F x v → SQ S W c' E (f x μ) → R v c'.H) : t σ c.H R := by
  refine h _ ?_
  cases o with
  | ok x μ => exact fun v c' s I r => g x μ v c' s I r (SQ.step s k)
  | ex x ns l μ => exact fun dd c' s I r => k dd σ c' s I (en.step s) r
  | stuck => exact k
def sNew (i : Nat) (ds : DA) : DS := fun env μ => (ds env μ).bindS env fun l μ1 => .nx (env.set i (some (.cel μ1.length))) (μ1 ++ [.lst l])
/-! ### xs.append(e), xs[i] = e -/
def sApp (da de : DE) : DS := fun env μ => (da env μ).bindS env fun x μ1 => match x with
  | .cel i => match μ1[i]? with
    | some (.lst _) => (de env μ1).bindS env fun y μ2 => match μ2[i]? with
      | some (.lst l) => if l.length < 100000 then .nx env (μ2.set i (.lst (l ++ [y]))) else .stuck
      | _ => .stuck
    | _ => .stuck
  | _ => .stuck
theorem cel_lst {c : Cf} {μ : List M} {i : Nat} {v : V} {l : List D} (I : SI S c μ) (r : rep S c.io c.F (.cel i) v) (e : μ[i]? = some (.lst l)) :
    ∃ a xs, v = .ref a ∧ c.io[i]? = some a ∧ c.F a = none ∧ c.H a = some (.lst xs) ∧ reps S c.io c.F l xs := by
  unfold rep at r
  obtain ⟨a, h1, h2⟩ := r
  obtain ⟨k1, xs, k2, k3⟩ := I.cell i a _ h2 e
  exact ⟨a, xs, h1, h2, k1, k2, k3⟩
def sSetIx (de da di : DE) : DS := fun env μ => (de env μ).bindS env fun y μ1 => (da env μ1).bindS env fun x μ2 => (di env μ2).bindS env fun n μ3 => match x, n with
  | .cel i, .int k => match μ3[i]? with
    | some (.lst l) => match ixN l.length k with
      | some j => .nx env (μ3.set i (.lst (l.set j y)))
      | none => .stuck
    | _ => .stuck
  | _, _ => .stuck
theorem pds_setIx {i : Expr} {spos : Pos} {dx di : DE} (he : PDE X S W e d) (ha : PDE X S W a dx) (hi : PDE X S W i di)
    (h1 : ∀ v, assign (.Subscript a i spos) X.env v = (do
      let ov ← holding [v] (eval a X.env)
      let iv ← holding [v, ov] (eval i X.env)
      standAt spos
      holding [v, ov, iv] (setItem ov iv v)
      release [v, ov, iv] []) := by intro _; rfl)
    (hs : swapsWithSole [.Subscript a i spos] e pos.line X.env = pure false := by rfl) (hw : swappedStores [.Subscript a i spos] e X.env = pure none := by rfl)
    (h2 : (assignEach [.Subscript a i spos] X.env).map (·.2) = [assign (.Subscript a i spos) X.env] := by rfl) : PDS X S W (.Assign [.Subscript a i spos] e pos) (sSetIx d dx di) := by
  obtain ⟨t, p, k⟩ := he.ex
  obtain ⟨ta, pa, ka⟩ := ha.ex
  obtain ⟨ti, pi, ki⟩ := hi.ex
  refine ⟨_, ps_asg p (pg_sub pa pi set_list h1) hs hw h2, fun env σ c μ E I en q => ?_⟩
  refine (show t σ c.H fun v H1 => ta σ H1 fun o H2 => ti σ H2 fun n H3 => rSetL o n v H3 fun H4 => E.nx σ H4 from ?_)
  refine bindES en (fun Q' => k env σ c μ Q' I en) q fun y μ1 u c1 s1 I1 r1 q1 => ?_
  refine bindES (en.step s1) (fun Q' => ka env σ c1 μ1 Q' I1 (en.step s1)) q1 fun x μ2 v c2 s2 I2 r2 q2 => ?_
  refine bindES ((en.step s1).step s2) (fun Q' => ki env σ c2 μ2 Q' I2 ((en.step s1).step s2)) q2 fun n μ3 w c3 s3 I3 r3 q3 => ?_
  try dsimp only at q3
  split at q3
  · rename_i j kk
    split at q3
    · rename_i l e3
      split at q3
      · rename_i m em
        obtain ⟨p2, xs, rfl, hi2, hf2, hH2, hr2⟩ := cel_lst I3 (s3.rep r2) e3
        rw [rep_int.mp r3]
        refine ⟨p2, xs, kk, m, rfl, rfl, hH2, by rw [← hr2.len]; exact em, ?_⟩
        obtain ⟨I4, s4⟩ := I3.write (o := .lst (xs.set m u)) (m := .lst (l.set m y)) hi2 hf2 ⟨hf2, _, upd_same, reps.set (s3.rep (s2.rep r1)) m hr2⟩
        exact q3 σ _ s4 I4 ((((en.step s1).step s2).step s3).step s4)
      · exact False.elim q3
    · exact False.elim q3
  · exact False.elim q3
/-! ### while -/
end
end DL
namespace DL
open PySem PySem.Spec PyProof.Rows L2
section
variable {X : Cx} {S : Sx} {W : WX} {a b e tg : Expr} {es : List Expr} {da db d : DE} {dt : DT} {ds : DA} {pos : Pos} {k : Nat}
/-! ### comprehensions -/
def wipeE (env : En) : List Nat → En
  | [] => env
  | v :: vs => (wipeE env vs).set v none
theorem EnvOk.wipe {c : Cf} {env : En} {σ : St} (h : EnvOk S c env σ) : ∀ vs : List Nat, EnvOk S c (wipeE env vs) (L2.wipe σ vs)
  | [] => h
  | v :: vs => (EnvOk.wipe h vs).del v
theorem wipe_at {σ : St} {i : Nat} : ∀ {vs : List Nat}, i ∉ vs → (L2.wipe σ vs)[i]? = σ[i]?
  | [], _ => rfl
  | v :: vs, h => by
    show ((L2.wipe σ vs).set v none)[i]? = _
    rw [List.getElem?_set_ne fun z => h (by simp [z])]
    exact wipe_at fun q => h (List.mem_cons_of_mem _ q)
theorem wipe_in {σ : St} {i : Nat} : ∀ {vs : List Nat}, i ∈ vs → (L2.wipe σ vs)[i]? = if i < σ.length then some none else none
  | v :: vs, h => by
    show ((L2.wipe σ vs).set v none)[i]? = _
    by_cases e : v = i
    · subst e
      by_cases hl : v < σ.length
      · rw [if_pos hl, List.getElem?_set_self (by rw [L2.wipe_length]; exact hl)]
      · rw [if_neg hl, List.getElem?_eq_none (by rw [List.length_set, L2.wipe_length]; omega)]
    · rw [List.getElem?_set_ne e]
      rcases List.mem_cons.mp h with q | q
      · exact absurd q.symm e
      · exact wipe_in q
theorem wipe_agree {σ σ' : St} {js vs : List Nat} (a : Agree js (L2.wipe σ vs) σ') (h : ∀ j ∈ js, j ∈ vs) : L2.wipe σ' vs = L2.wipe σ vs := by
  apply List.ext_getElem?
  intro i
  have hl : σ'.length = σ.length := by rw [a.1, L2.wipe_length]
  by_cases m : i ∈ vs
  · rw [wipe_in m, wipe_in m, hl]
  · rw [wipe_at m, a.2 i (fun q => m (h i q))]
structure PDTs (X : Cx) (S : Sx) (W : WX) (ifs : List Expr) (d : DT) : Prop where
  ex : ∃ t, PTs X ifs t ∧ ∀ env σ c μ Q, SI S c μ → EnvOk S c env σ → TQ S W σ c Q (d env μ) → t σ c.H Q
@[simp] def tYes' : DT := fun _ μ => .ok true μ
theorem pdts_nil : PDTs X S W [] tYes' := ⟨_, pts_nil, fun env σ c μ Q I en q => q c I.step I⟩
theorem pdts_one (h : PDT X S W e dt) : PDTs X S W [e] dt := by
  obtain ⟨t, p, k⟩ := h.ex
  exact ⟨_, pts_one p, k⟩
theorem PDTs.pts {ifs : List Expr} (h : PDTs X S W ifs dt) : PTs X ifs (tT S W dt) := by
  obtain ⟨t, p, k⟩ := h.ex
  refine ⟨fun pins s σ H Q I q => ?_⟩
  obtain ⟨env, c, μ, rfl, i, en, q⟩ := q
  exact p.run pins s σ _ Q I (k env σ c μ Q i en q)
def tG (S : Sx) (dg : DG) (js : List Nat) : TG := fun v σ H Q => ∃ env c μ d env', c.H = H ∧ SI S c μ ∧ EnvOk S c env σ ∧ rep S c.io c.F d v ∧ dg d env μ = some env' ∧ ∀ σ', EnvOk S c env' σ' → Agree js σ σ' → Q σ' H
theorem PDG.pg {dg : DG} {js : List Nat} (h : PDG X S tg dg js) : PG X tg (tG S dg js) := by
  obtain ⟨t, p, k⟩ := h.ex
  refine ⟨fun pins s σ H v u Q I r q => ?_⟩
  obtain ⟨env, c, μ, d, env', rfl, i, en, r', e, q⟩ := q
  exact p.run pins s σ _ v u Q I r (k env σ c μ d v env' Q i en r' e q)
def wNo : WX := fun _ _ _ _ => False
noncomputable def lcGo (g : List M → Prop) (tg : DG) (tt : DT) (el : DE) (env0 : En) : List D → List M → List D → Out (List D)
  | [], μ, acc => if guard g μ = true then .ok acc μ else .stuck
  | x :: xs, μ, acc => if guard g μ = true then match tg x env0 μ with
    | some env1 => match tt env1 μ with
      | .ok b μ1 => if b = true then match el env1 μ1 with
        | .ok y μ2 => if acc.length < 100000 then lcGo g tg tt el env0 xs μ2 (acc ++ [y]) else .stuck
        | _ => .stuck
        else lcGo g tg tt el env0 xs μ1 acc
      | _ => .stuck
    | none => .stuck
    else .stuck
noncomputable def dLc (di : DI) (tg : DG) (tt : DT) (el : DE) (vs : List Nat) : DA := fun env μ => (di env μ).bind fun lg μ1 => lcGo lg.2 tg tt el (wipeE env vs) lg.1 μ1 []
/-- an object that is tracked, but no datum's -/
structure Ghost (c : Cf) (p : Addr) : Prop where
  io : p ∉ c.io
  F : c.F p = none
  H : c.H p ≠ none
theorem Ghost.step {c c' : Cf} {p : Addr} (g : Ghost c p) (s : Step S c c') : Ghost c' p := by
  refine ⟨fun m => g.H (s.new p m g.io), ?_, s.som p g.H⟩
  cases e : c'.F p with
  | none => rfl
  | some o =>
    obtain ⟨i, _, hi⟩ := s.frz p g.H g.F (by rw [e]; exact fun z => nomatch z)
    exact absurd (List.mem_of_getElem? hi) g.io
theorem SI.ghost {c : Cf} {μ : List M} {p : Addr} {o : HO} (I : SI S c μ) (hi : p ∉ c.io) (hf : c.F p = none) : SI S ⟨c.io, c.F, upd c.H p o⟩ μ := by
  refine ⟨I.ex.updR hf, I.len, I.nd, fun i a m h1 h2 => ?_, I.cls⟩
  have nep : a ≠ p := fun z => hi (by rw [← z]; exact List.mem_of_getElem? h1)
  have k := I.cell i a m h1 h2
  cases m with
  | lst l =>
    obtain ⟨k1, xs, k2, k3⟩ := k
    exact ⟨k1, xs, (upd_ne nep).trans k2, k3⟩
  | dct ks l =>
    obtain ⟨k1, xs, k2, k3, k4⟩ := k
    exact ⟨k1, xs, (upd_ne nep).trans k2, k3, k4⟩
  | obj x ns l =>
    obtain ⟨k1, dx, fs, k2, k3, k4⟩ := k
    exact ⟨k1, dx, fs, (upd_ne nep).trans k2, k3, k4⟩
  | dead =>
    obtain ⟨u, k⟩ := k
    exact ⟨u, (upd_ne nep).trans k⟩
/-- a change at an object that was not there at c -/
theorem Step.ghost {c c' : Cf} {p : Addr} {o : HO} (s : Step S c c') (hp : c.H p = none) : Step S c ⟨c'.io, c'.F, upd c'.H p o⟩ := by
  refine ⟨s.pre, s.nd, s.exF, s.frz, fun q u h1 h2 => ?_, s.new, fun q h => ?_⟩
  · exact (upd_ne (ne_of_none h1 hp)).trans (s.keep q u h1 h2)
  · show upd c'.H p o q ≠ none
    by_cases e : q = p
    · rw [e, upd_same]; exact fun z => nomatch z
    · rw [upd_ne e]; exact s.som q h
theorem EnvOk.ghost {c : Cf} {env : En} {σ : St} {H : Hp} (h : EnvOk S c env σ) : EnvOk S ⟨c.io, c.F, H⟩ env σ := ⟨h.len, h.at_⟩
/-- .. becomes a datum -/
theorem SI.froz {c c1 : Cf} {μ : List M} {p : Addr} {xs : List V} {l : List D} (I : SI S c μ) (g : Ghost c p) (hH : c.H p = some (.lst xs)) (r : reps S c.io c.F l xs) (s : Step S c1 c) (hp : c1.H p = none) :
    SI S ⟨c.io, upd c.F p (.lst xs), c.H⟩ μ ∧ Step S c1 ⟨c.io, upd c.F p (.lst xs), c.H⟩ ∧ rep S c.io (upd c.F p (.lst xs)) (.lst l) (.ref p) := by
  have ex : Ex c.F (upd c.F p (.lst xs)) := Ex.new g.F
  refine ⟨⟨fun q u h => ?_, I.len, I.nd, fun i a m h1 h2 => ?_, I.cls⟩, ⟨s.pre, s.nd, s.exF.trans ex, fun q h1 h2 h3 => ?_, s.keep, s.new, s.som⟩, ?_⟩
  · by_cases e : q = p
    · subst e
      have h : upd c.F q (.lst xs) q = some u := h
      rw [upd_same] at h
      rw [← h]; exact hH
    · have h : upd c.F p (.lst xs) q = some u := h
      rw [upd_ne e] at h
      exact I.ex q u h
  · have nep : a ≠ p := fun z => g.io (by rw [← z]; exact List.mem_of_getElem? h1)
    have k := I.cell i a m h1 h2
    cases m with
    | lst l =>
      obtain ⟨k1, xs, k2, k3⟩ := k
      exact ⟨(upd_ne nep).trans k1, xs, k2, reps.mono (List.prefix_refl _) ex _ k3⟩
    | dct ks l =>
      obtain ⟨k1, xs, k2, k3, k4⟩ := k
      exact ⟨(upd_ne nep).trans k1, xs, k2, k3, reps.mono (List.prefix_refl _) ex _ k4⟩
    | obj x ns l =>
      obtain ⟨k1, dx, fs, k2, k3, k4⟩ := k
      exact ⟨(upd_ne nep).trans k1, dx, fs, k2, k3, reps.mono (List.prefix_refl _) ex _ k4⟩
    | dead => exact k
  · have h3 : upd c.F p (.lst xs) q ≠ none := h3
    rw [upd_ne (fun z => h1 (by rw [z]; exact hp))] at h3
    exact s.frz q h1 h2 h3
  · unfold rep
    exact ⟨p, xs, rfl, upd_same, reps.mono (List.prefix_refl _) ex _ r⟩
theorem lc_run {wi : TI} {di : DI} {dg : DG} {de : DE} {js vs : List Nat} (hjs : ∀ j ∈ js, j ∈ vs)
    (ki : ∀ env σ c μ R, SI S c μ → EnvOk S c env σ → IQ S W σ c R (di env μ) → wi σ c.H R) :
    ∀ env σ c μ (Q : VK), SI S c μ → EnvOk S c env σ → (match dLc di dg dt de vs env μ with
      | .ok l μ' => ∀ (p : Addr) (c' : Cf) (xs : List V) (c1 : Cf), Step S c c1 → c1.H p = none → Step S c1 c' → SI S c' μ' → Ghost c' p → c'.H p = some (.lst xs) → reps S c'.io c'.F l xs → Q (.ref p) c'.H
      | .ex x ns l μ' => XQ S W σ c x ns l μ'
      | .stuck => False) → tLc wi (tG S dg js) (tT S wNo dt) (tE S wNo de) vs σ c.H Q := by
  intro env σ c μ Q I en q
  refine ki env σ c μ _ I en ?_
  unfold dLc at q
  cases e : di env μ with
  | stuck => rw [e] at q; exact q
  | ex x ns l μ1 => rw [e] at q; exact q
  | ok lg μ1 =>
    obtain ⟨l, gd⟩ := lg
    rw [e] at q
    intro J c1 s1 I1 w Dl hD
    obtain ⟨G, Y, w1, w2, w3⟩ := w.ex
    let fin (o : Out (List D)) : Prop := match o with
      | .ok l μ' => ∀ (p : Addr) (c' : Cf) (xs : List V) (c1 : Cf), Step S c c1 → c1.H p = none → Step S c1 c' → SI S c' μ' → Ghost c' p → c'.H p = some (.lst xs) → reps S c'.io c'.F l xs → Q (.ref p) c'.H
      | .ex x ns l μ' => XQ S W σ c x ns l μ'
      | .stuck => False
    have q : fin (lcGo gd dg dt de (wipeE env vs) l μ1 []) := q
    have io0 : Dl ∉ c1.io := fun m => by
      obtain ⟨o, h⟩ := I1.there m
      rw [hD] at h; cases h
    have f0 : c1.F Dl = none := I1.ex.back hD
    refine lc_it w1 (fun i H' => ∃ c' μ' acc xs, c'.H = H' ∧ Step S c1 c' ∧ SI S c' μ' ∧ Ghost c' Dl ∧ c'.H Dl = some (.lst xs) ∧ reps S c'.io c'.F acc xs ∧ fin (lcGo gd dg dt de (wipeE env vs) (l.drop i) μ' acc)) ?_ ?_ ?_ ?_
    · refine ⟨⟨c1.io, c1.F, upd c1.H Dl (.lst [])⟩, μ1, [], [], rfl, I1.step.ghost hD, I1.ghost io0 f0, ⟨io0, f0, ?_⟩, upd_same, .nil, q⟩
      show upd c1.H Dl (.lst []) Dl ≠ none
      rw [upd_same]; exact fun z => nomatch z
    · rintro i H' hi ⟨c', μ', acc, xs, rfl, s', I', g', h', r', q'⟩
      refine w2 c' μ' s' I' ?_
      cases ed : l.drop i with
      | nil =>
        rw [ed] at q'
        unfold lcGo at q'
        by_cases h : guard gd μ' = true
        · exact guard_iff.mp h
        · rw [if_neg h] at q'; exact False.elim q'
      | cons d r =>
        rw [ed] at q'
        unfold lcGo at q'
        by_cases h : guard gd μ' = true
        · exact guard_iff.mp h
        · rw [if_neg h] at q'; exact False.elim q'
    · rintro i x H' H2 hi ⟨c', μ', acc, xs, rfl, s', I', g', h', r', q'⟩ y
      have ed : l.drop i = l[i] :: l.drop (i + 1) := List.drop_eq_getElem_cons hi
      rw [ed] at q'
      unfold lcGo at q'
      by_cases h : guard gd μ' = true
      · rw [if_pos h] at q'
        obtain ⟨c3, d, rfl, s3, I3, e3, r3⟩ := w3 i x H2 c' μ' hi s' I' (guard_iff.mp h) y
        rw [List.getElem?_eq_getElem hi] at e3
        rw [Option.some.inj e3] at q'
        cases et : dg d (wipeE env vs) μ' with
        | none => rw [et] at q'; exact False.elim q'
        | some env1 =>
          rw [et] at q'
          have en3 : EnvOk S c3 (wipeE env vs) (L2.wipe σ vs) := (((en.step s1).step s').step s3).wipe vs
          refine ⟨_, c3, μ', d, env1, rfl, I3, en3, r3, et, fun σ1 en1 ag => ⟨wipe_agree ag hjs, env1, c3, μ', rfl, I3, en1, ?_⟩⟩
          dsimp only at q'
          cases ett : dt env1 μ' with
          | stuck => rw [ett] at q'; exact False.elim q'
          | ex _ _ _ _ => rw [ett] at q'; exact False.elim q'
          | ok b μ2 =>
            rw [ett] at q'
            intro c4 s4 I4
            have g4 := (g'.step s3).step s4
            have h4 : c4.H Dl = some (.lst xs) := s4.keep Dl _ (s3.keep Dl _ h' g'.io) (g'.step s3).io
            cases b with
            | false =>
              refine iteF ⟨c4, μ2, acc, xs, rfl, (s'.trans s3).trans s4, I4, g4, h4, s4.reps (s3.reps r'), ?_⟩
              exact q'
            | true =>
              dsimp only at q'
              rw [if_pos rfl] at q'
              refine iteT ⟨env1, c4, μ2, rfl, I4, en1.step s4, ?_⟩
              cases ee : de env1 μ2 with
              | stuck => rw [ee] at q'; exact False.elim q'
              | ex _ _ _ _ => rw [ee] at q'; exact False.elim q'
              | ok y μ3 =>
                rw [ee] at q'
                dsimp only at q'
                intro u c5 s5 I5 r5
                have g5 := g4.step s5
                have h5 : c5.H Dl = some (.lst xs) := s5.keep Dl _ h4 g4.io
                have ra := s5.reps (s4.reps (s3.reps r'))
                by_cases hl : acc.length < 100000
                · rw [if_pos hl] at q'
                  refine ⟨xs, h5, by rw [← ra.len]; exact sz_lt hl, ⟨c5.io, c5.F, upd c5.H Dl (.lst (xs ++ [u]))⟩, μ3, acc ++ [y], xs ++ [u], rfl, (((s'.trans s3).trans s4).trans s5).ghost hD, I5.ghost g5.io g5.F, ⟨g5.io, g5.F, ?_⟩, upd_same, ra.append (.cons r5 .nil), q'⟩
                  show upd c5.H Dl _ Dl ≠ none
                  rw [upd_same]; exact fun z => nomatch z
                · rw [if_neg hl] at q'; exact False.elim q'
      · rw [if_neg h] at q'; exact False.elim q'
    · rintro H' ⟨c', μ', acc, xs, rfl, s', I', g', h', r', q'⟩
      rw [List.drop_length] at q'
      unfold lcGo at q'
      by_cases h : guard gd μ' = true
      · rw [if_pos h] at q'
        exact q' Dl c' xs c1 s1 hD s' I' g' h' r'
      · rw [if_neg h] at q'; exact False.elim q'
noncomputable def dLcF (di : DI) (tg : DG) (tt : DT) (el : DE) (vs : List Nat) : DE := fun env μ => (dLc di tg tt el vs env μ).bind fun l μ1 => .ok (.lst l) μ1
theorem pd_lc {iter : Expr} {ifs : List Expr} {scope : Scope} {own : List (Str × Nat)} {di : DI} {dg : DG} {js : List Nat} (hc : X.calm = true) (hN : X.N.Nodup) (hi : PDI X S W tg iter di) (ok : BlkOk X.N X.env.scope scope own) (hjs : ∀ j ∈ js, j ∈ own.map (·.2))
    (hg : ∀ (s : Shared) (H : Hp) (C : Addr) (cl : List (Str × Addr)) (fp : List Addr), PDG (X.blk s H scope (compEnvC scope cl C X.env) fp) S tg dg js) (ht : ∀ (s : Shared) (H : Hp) (C : Addr) (cl : List (Str × Addr)) (fp : List Addr), PDTs (X.blk s H scope (compEnvC scope cl C X.env) fp) S wNo ifs dt)
    (he : ∀ (s : Shared) (H : Hp) (C : Addr) (cl : List (Str × Addr)) (fp : List Addr), PDE (X.blk s H scope (compEnvC scope cl C X.env) fp) S wNo e d) (hs : ∀ x, foldedSetIterable iter X.env x = pure x := by intro _; rfl) :
    PDE X S W (.ListComp e [⟨tg, iter, ifs, 0⟩] scope pos) (dLcF di dg dt d (own.map (·.2))) := by
  obtain ⟨wi, pi, ki⟩ := hi.ex
  refine ⟨_, pe_lc hc hN pi ok (fun s H C cl fp => (hg s H C cl fp).pg) (fun s H C cl fp => (ht s H C cl fp).pts) (fun s H C cl fp => (he s H C cl fp).pe) hs, fun env σ c μ Q I en q => ?_⟩
  refine lc_run hjs ki env σ c μ Q I en ?_
  unfold dLcF at q
  cases e1 : dLc di dg dt d (own.map (·.2)) env μ with
  | stuck => rw [e1] at q; exact q
  | ex x ns l μ1 => rw [e1] at q; exact q
  | ok l μ1 =>
    rw [e1] at q
    intro p c' xs c1 s1 hp s' I' g' h' r'
    obtain ⟨I2, s2, r2⟩ := I'.froz g' h' r' s' hp
    exact q _ ⟨c'.io, upd c'.F p (.lst xs), c'.H⟩ (s1.trans s2) I2 r2
theorem pds_setLc {i : Nat} {y : Str} {py spos : Pos} {iter : Expr} {ifs : List Expr} {scope : Scope} {own : List (Str × Nat)} {di : DI} {dg : DG} {js : List Nat} (hc : X.calm = true) (hN : X.N.Nodup) (hy : X.N[i]? = some y) (hyl : X.env.scope.names.lookup y = some .local)
    (hsw : swapsWith (.ListComp e [⟨tg, iter, ifs, 0⟩] scope pos) (some (.Name y py)) spos.line X.env = pure true) (hi : PDI X S W tg iter di) (ok : BlkOk X.N X.env.scope scope own) (hjs : ∀ j ∈ js, j ∈ own.map (·.2))
    (hg : ∀ (s : Shared) (H : Hp) (C : Addr) (cl : List (Str × Addr)) (fp : List Addr), PDG (X.blk s H scope (compEnvC scope cl C X.env) fp) S tg dg js) (ht : ∀ (s : Shared) (H : Hp) (C : Addr) (cl : List (Str × Addr)) (fp : List Addr), PDTs (X.blk s H scope (compEnvC scope cl C X.env) fp) S wNo ifs dt)
    (he : ∀ (s : Shared) (H : Hp) (C : Addr) (cl : List (Str × Addr)) (fp : List Addr), PDE (X.blk s H scope (compEnvC scope cl C X.env) fp) S wNo e d) (hs : ∀ x, foldedSetIterable iter X.env x = pure x := by intro _; rfl) :
    PDS X S W (.Assign [.Name y py] (.ListComp e [⟨tg, iter, ifs, 0⟩] scope pos) spos) (sAsg (dLcF di dg dt d (own.map (·.2))) (gNm i)) := by
  obtain ⟨wi, pi, ki⟩ := hi.ex
  refine ⟨_, ps_setLc hc hN hy hyl hsw pi ok (fun s H C cl fp => (hg s H C cl fp).pg) (fun s H C cl fp => (ht s H C cl fp).pts) (fun s H C cl fp => (he s H C cl fp).pe) hs, ?_⟩
  refine asg_run (js := [i]) (fun env σ c μ Q I en q => ?_) (fun env σ c μ d v env' Q I en r e k => ?_)
  · refine lc_run hjs ki env σ c μ Q I en ?_
    unfold dLcF at q
    cases e1 : dLc di dg dt d (own.map (·.2)) env μ with
    | stuck => rw [e1] at q; exact q
    | ex x ns l μ1 => rw [e1] at q; exact q
    | ok l μ1 =>
      rw [e1] at q
      intro p c' xs c1 s1 hp s' I' g' h' r'
      obtain ⟨I2, s2, r2⟩ := I'.froz g' h' r' s' hp
      exact q _ ⟨c'.io, upd c'.F p (.lst xs), c'.H⟩ (s1.trans s2) I2 r2
  · cases (show some (env.set i (some d)) = some env' from e)
    exact k _ (en.set r i) ⟨List.length_set, fun j h => List.getElem?_set_ne fun z => h (by simp [z])⟩
end
end DL
namespace DL
open PySem PySem.Spec PyProof.Rows L2
/-! ### what a def hands back: cells of its own become data -/
mutual
def clean (n : Nat) : D → Bool
  | .cel i => decide (i < n)
  | .tup l => cleans n l | .lst l => cleans n l | .dct _ l => cleans n l | .obj _ _ l => cleans n l | .exc _ _ _ => false
  | _ => true
def cleans (n : Nat) : List D → Bool
  | [] => true
  | d :: l => clean n d && cleans n l
end
mutual
def sub (n : Nat) (f : Nat → Option D) : D → Option D
  | .cel i => if i < n then some (.cel i) else f i
  | .tup l => (subs n f l).map .tup | .lst l => (subs n f l).map .lst | .dct ks l => (subs n f l).map (.dct ks) | .obj c ns l => (subs n f l).map (.obj c ns) | .exc c ns l => (subs n f l).map (.exc c ns)
  | d => some d
def subs (n : Nat) (f : Nat → Option D) : List D → Option (List D)
  | [] => some []
  | d :: l => match sub n f d, subs n f l with
    | some d', some l' => some (d' :: l')
    | _, _ => none
end
def rsv (n : Nat) (μ : List M) : Nat → Nat → Option D
  | 0, _ => none
  | k + 1, i => match μ[i]? with
    | some (.lst l) => (subs n (rsv n μ k) l).map .lst
    | some (.dct ks l) => (subs n (rsv n μ k) l).map (.dct ks)
    | some (.obj c ns l) => (subs n (rsv n μ k) l).map (.obj c ns)
    | _ => none
def subM (n : Nat) (f : Nat → Option D) : M → Option M
  | .lst l => (subs n f l).map .lst
  | .dct ks l => (subs n f l).map (.dct ks)
  | .obj c ns l => (subs n f l).map (.obj c ns)
  | .dead => some .dead
def subMs (n : Nat) (f : Nat → Option D) : List M → Option (List M)
  | [] => some []
  | m :: r => match subM n f m, subMs n f r with
    | some m', some r' => some (m' :: r')
    | _, _ => none
mutual
theorem sub_clean {n : Nat} {f : Nat → Option D} : ∀ d : D, clean n d = true → sub n f d = some d
  | .cel i, h => by unfold clean at h; unfold sub; rw [if_pos (of_decide_eq_true h)]
  | .tup l, h => by unfold clean at h; unfold sub; rw [subs_clean l h]; rfl
  | .lst l, h => by unfold clean at h; unfold sub; rw [subs_clean l h]; rfl
  | .dct ks l, h => by unfold clean at h; unfold sub; rw [subs_clean l h]; rfl
  | .obj c ns l, h => by unfold clean at h; unfold sub; rw [subs_clean l h]; rfl
  | .exc c ns l, h => by unfold clean at h; cases h
  | .non, _ => rfl
  | .txt, _ => rfl
  | .bl _, _ => rfl
  | .int _, _ => rfl
  | .str _, _ => rfl
  | .ty _, _ => rfl
  | .glo _, _ => rfl
  | .scr _, _ => rfl
theorem subs_clean {n : Nat} {f : Nat → Option D} : ∀ l : List D, cleans n l = true → subs n f l = some l
  | [], _ => rfl
  | d :: l, h => by
    unfold cleans at h
    have h' := Bool.and_eq_true_iff.mp h
    unfold subs
    rw [sub_clean d h'.1, subs_clean l h'.2]
end
/-- what stands of the answer and of the caller's cells, behind the call -/
def finD (n : Nat) (μ : List M) (d : D) : Option (D × List M) := match sub n (rsv n μ 20) d, subMs n (rsv n μ 20) (μ.take n) with
  | some d', some μ' => some (d', μ')
  | _, _ => none
def finL (n : Nat) (μ : List M) (l : List D) : Option (List D × List M) := match subs n (rsv n μ 20) l, subMs n (rsv n μ 20) (μ.take n) with
  | some d', some μ' => some (d', μ')
  | _, _ => none
def fin (n : Nat) : SO → Out D
  | .rt d μ => match finD n μ d with
    | some (d', μ') => .ok d' μ'
    | none => .stuck
  | .nx _ μ => match finD n μ .non with
    | some (d', μ') => .ok d' μ'
    | none => .stuck
  | .ex x ns l _ μ => match finL n μ l with
    | some (l', μ') => .ex x ns l' μ'
    | none => .stuck
  | _ => .stuck
def cleanM (n : Nat) : M → Bool
  | .lst l => cleans n l
  | .dct _ l => cleans n l
  | .obj _ _ l => cleans n l
  | .dead => true
theorem subMs_clean {n : Nat} {f : Nat → Option D} : ∀ l : List M, l.all (cleanM n) = true → subMs n f l = some l
  | [], _ => rfl
  | m :: r, h => by
    rw [List.all_cons] at h
    have h' := Bool.and_eq_true_iff.mp h
    have e : subM n f m = some m := by
      cases m with
      | lst l => dsimp only [subM]; rw [subs_clean l h'.1]; rfl
      | dct ks l => dsimp only [subM]; rw [subs_clean l h'.1]; rfl
      | obj c ns l => dsimp only [subM]; rw [subs_clean l h'.1]; rfl
      | dead => rfl
    unfold subMs
    rw [e, subMs_clean r h'.2]
theorem fin_rt {n : Nat} {μ : List M} {d : D} (h : clean n d = true) (h' : (μ.take n).all (cleanM n) = true) : fin n (.rt d μ) = .ok d (μ.take n) := by
  dsimp only [fin, finD]
  rw [sub_clean d h, subMs_clean _ h']
theorem fin_nx {n : Nat} {e : En} {μ : List M} (h' : (μ.take n).all (cleanM n) = true) : fin n (.nx e μ) = .ok .non (μ.take n) := by
  dsimp only [fin, finD]
  rw [sub_clean .non rfl, subMs_clean _ h']
theorem fin_ex {n : Nat} {x : Str} {ns : List Str} {l : List D} {e : En} {μ : List M} (h : cleans n l = true) (h' : (μ.take n).all (cleanM n) = true) : fin n (.ex x ns l e μ) = .ex x ns l (μ.take n) := by
  dsimp only [fin, finL]
  rw [subs_clean l h, subMs_clean _ h']
section
variable {S : Sx} {c : Cf} {μ : List M}
/-- all cells from n on become data -/
def froz (c : Cf) (n : Nat) : Cf := ⟨c.io.take n, fun p => if p ∈ c.io.drop n then c.H p else c.F p, c.H⟩
theorem froz_ex (I : SI S c μ) (n : Nat) : Ex c.F (froz c n).F := fun a o h => by
  show (if a ∈ c.io.drop n then c.H a else c.F a) = some o
  by_cases m : a ∈ c.io.drop n
  · rw [if_pos m]; exact I.ex a o h
  · rw [if_neg m]; exact h
variable {n : Nat}
mutual
theorem sub_rep (I : SI S c μ) {f : Nat → Option D} (hf : ∀ i d' v, n ≤ i → f i = some d' → rep S c.io c.F (.cel i) v → rep S (froz c n).io (froz c n).F d' v) :
    ∀ (d : D) {d' : D} {v : V}, sub n f d = some d' → rep S c.io c.F d v → rep S (froz c n).io (froz c n).F d' v
  | .cel i, d', v, e, r => by
    unfold sub at e
    by_cases h : i < n
    · rw [if_pos h] at e
      cases e
      unfold rep at r ⊢
      obtain ⟨a, h1, h2⟩ := r
      refine ⟨a, h1, ?_⟩
      show (c.io.take n)[i]? = some a
      rw [List.getElem?_take_of_lt h]; exact h2
    · rw [if_neg h] at e
      exact hf i d' v (by omega) e r
  | .tup l, d', v, e, r => by
    unfold sub at e
    cases el : subs n f l with
    | none => rw [el] at e; cases e
    | some l' =>
      rw [el] at e; cases e
      unfold rep at r ⊢
      obtain ⟨a, xs, h1, h2, h3⟩ := r
      exact ⟨a, xs, h1, ex_t (froz_ex I n) h2, subs_rep I hf l el h3⟩
  | .lst l, d', v, e, r => by
    unfold sub at e
    cases el : subs n f l with
    | none => rw [el] at e; cases e
    | some l' =>
      rw [el] at e; cases e
      unfold rep at r ⊢
      obtain ⟨a, xs, h1, h2, h3⟩ := r
      exact ⟨a, xs, h1, froz_ex I n _ _ h2, subs_rep I hf l el h3⟩
  | .dct ks l, d', v, e, r => by
    unfold sub at e
    cases el : subs n f l with
    | none => rw [el] at e; cases e
    | some l' =>
      rw [el] at e; cases e
      unfold rep at r ⊢
      obtain ⟨a, xs, h1, h2, h3, h4⟩ := r
      exact ⟨a, xs, h1, froz_ex I n _ _ h2, h3, subs_rep I hf l el h4⟩
  | .obj cl ns l, d', v, e, r => by
    unfold sub at e
    cases el : subs n f l with
    | none => rw [el] at e; cases e
    | some l' =>
      rw [el] at e; cases e
      unfold rep at r ⊢
      obtain ⟨a, dx, fs, h1, h2, h3, h4, h5⟩ := r
      exact ⟨a, dx, fs, h1, froz_ex I n _ _ h2, h3, subs_rep I hf l el h4, h5⟩
  | .exc cl ns l, d', v, e, r => by
    unfold sub at e
    cases el : subs n f l with
    | none => rw [el] at e; cases e
    | some l' =>
      rw [el] at e; cases e
      unfold rep at r ⊢
      obtain ⟨a, oe, d, h1, h2, h3, h4, h5⟩ := r
      refine ⟨a, oe, d, h1, h2, h3, h4, ?_⟩
      rcases h5 with ⟨h5, h6, h7⟩ | ⟨dd, fs, h5, h6, h7, h8⟩
      · subst h6
        cases (show subs n f [] = some l' from el)
        exact Or.inl ⟨h5, rfl, h7⟩
      · exact Or.inr ⟨dd, fs, h5, froz_ex I n _ _ h6, h7, subs_rep I hf l el h8⟩
  | .non, d', v, e, r => by cases (show some D.non = some d' from e); unfold rep at r ⊢; exact r
  | .txt, d', v, e, r => by cases (show some D.txt = some d' from e); unfold rep at r ⊢; exact r
  | .bl _, d', v, e, r => by cases (show some (D.bl _) = some d' from e); unfold rep at r ⊢; exact r
  | .int _, d', v, e, r => by cases (show some (D.int _) = some d' from e); unfold rep at r ⊢; exact r
  | .str _, d', v, e, r => by cases (show some (D.str _) = some d' from e); unfold rep at r ⊢; exact r
  | .ty _, d', v, e, r => by cases (show some (D.ty _) = some d' from e); unfold rep at r ⊢; exact r
  | .glo _, d', v, e, r => by cases (show some (D.glo _) = some d' from e); unfold rep at r ⊢; exact r
  | .scr _, d', v, e, r => by
    cases (show some (D.scr _) = some d' from e)
    unfold rep at r ⊢
    obtain ⟨a, h1, h2⟩ := r
    exact ⟨a, h1, ex_l (froz_ex I n) h2⟩
theorem subs_rep (I : SI S c μ) {f : Nat → Option D} (hf : ∀ i d' v, n ≤ i → f i = some d' → rep S c.io c.F (.cel i) v → rep S (froz c n).io (froz c n).F d' v) :
    ∀ (l : List D) {l' : List D} {xs : List V}, subs n f l = some l' → reps S c.io c.F l xs → reps S (froz c n).io (froz c n).F l' xs
  | [], l', xs, e, r => by
    cases (show some [] = some l' from e)
    rw [r.eq_nil]; exact .nil
  | d :: l, l', xs, e, r => by
    obtain ⟨x, q, rfl, r1, r2⟩ := r.uncons
    unfold subs at e
    cases e1 : sub n f d with
    | none => rw [e1] at e; cases e
    | some d1 =>
      rw [e1] at e
      cases e2 : subs n f l with
      | none => rw [e2] at e; cases e
      | some l1 =>
        rw [e2] at e
        cases e
        exact .cons (sub_rep I hf d e1 r1) (subs_rep I hf l e2 r2)
end
theorem rsv_rep (I : SI S c μ) : ∀ (k : Nat) (i : Nat) (d' : D) (v : V), n ≤ i → rsv n μ k i = some d' → rep S c.io c.F (.cel i) v → rep S (froz c n).io (froz c n).F d' v
  | 0, _, _, _, _, e, _ => by cases e
  | k + 1, i, d', v, hi, e, r => by
    have ih := rsv_rep I k
    unfold rep at r
    obtain ⟨a, rfl, h2⟩ := r
    have md : a ∈ c.io.drop n := by
      refine List.mem_of_getElem? (i := i - n) ?_
      rw [List.getElem?_drop, show n + (i - n) = i by omega]; exact h2
    have hF : (froz c n).F a = c.H a := by
      show (if a ∈ c.io.drop n then c.H a else c.F a) = c.H a
      rw [if_pos md]
    unfold rsv at e
    cases em : μ[i]? with
    | none => rw [em] at e; cases e
    | some m =>
      rw [em] at e
      cases m with
      | lst l =>
        dsimp only at e
        cases el : subs n (rsv n μ k) l with
        | none => rw [el] at e; cases e
        | some l' =>
          rw [el] at e; cases e
          obtain ⟨_, xs, k2, k3⟩ := I.cell i a _ h2 em
          unfold rep
          exact ⟨a, xs, rfl, hF.trans k2, subs_rep I ih l el k3⟩
      | dct ks l =>
        dsimp only at e
        cases el : subs n (rsv n μ k) l with
        | none => rw [el] at e; cases e
        | some l' =>
          rw [el] at e; cases e
          obtain ⟨_, xs, k2, k3, k4⟩ := I.cell i a _ h2 em
          unfold rep
          exact ⟨a, xs, rfl, hF.trans k2, k3, subs_rep I ih l el k4⟩
      | obj x ns l =>
        dsimp only at e
        cases el : subs n (rsv n μ k) l with
        | none => rw [el] at e; cases e
        | some l' =>
          rw [el] at e; cases e
          obtain ⟨_, dx, fs, k2, k3, k4⟩ := I.cell i a _ h2 em
          unfold rep
          exact ⟨a, dx, fs, rfl, hF.trans k2, k3, subs_rep I ih l el k4, I.cls i x ns l em⟩
      | dead => cases e
theorem subMs_get {f : Nat → Option D} : ∀ {l l' : List M} {i : Nat} {m : M}, subMs n f l = some l' → l'[i]? = some m → ∃ m0, l[i]? = some m0 ∧ subM n f m0 = some m
  | [], l', i, m, e, h => by cases (show some [] = some l' from e); cases h
  | m0 :: r, l', i, m, e, h => by
    unfold subMs at e
    cases e1 : subM n f m0 with
    | none => rw [e1] at e; cases e
    | some m1 =>
      rw [e1] at e
      cases e2 : subMs n f r with
      | none => rw [e2] at e; cases e
      | some r1 =>
        rw [e2] at e; cases e
        cases i with
        | zero => simp at h; subst h; exact ⟨m0, rfl, e1⟩
        | succ i => exact subMs_get (i := i) e2 (by simpa using h)
theorem subMs_len {f : Nat → Option D} : ∀ {l l' : List M}, subMs n f l = some l' → l'.length = l.length
  | [], l', e => by cases (show some [] = some l' from e); rfl
  | m0 :: r, l', e => by
    unfold subMs at e
    cases e1 : subM n f m0 with
    | none => rw [e1] at e; cases e
    | some m1 =>
      rw [e1] at e
      cases e2 : subMs n f r with
      | none => rw [e2] at e; cases e
      | some r1 =>
        rw [e2] at e; cases e
        rw [List.length_cons, List.length_cons, subMs_len e2]
theorem froz_SI (I : SI S c μ) {f : Nat → Option D} (hf : ∀ i d' v, n ≤ i → f i = some d' → rep S c.io c.F (.cel i) v → rep S (froz c n).io (froz c n).F d' v) {μ' : List M} (e : subMs n f (μ.take n) = some μ') : SI S (froz c n) μ' := by
  refine ⟨fun a o h => ?_, ?_, I.nd.sublist (List.take_sublist _ _), fun i a m h1 h2 => ?_, fun i x ns l h => ?_⟩
  · have h : (if a ∈ c.io.drop n then c.H a else c.F a) = some o := h
    by_cases md : a ∈ c.io.drop n
    · rw [if_pos md] at h; exact h
    · rw [if_neg md] at h; exact I.ex a o h
  · show (c.io.take n).length = μ'.length
    rw [subMs_len e, List.length_take, List.length_take, I.len]
  · have h1 : (c.io.take n)[i]? = some a := h1
    have hi : i < n := by
      have := (List.getElem?_eq_some_iff.mp h1).1
      rw [List.length_take] at this; omega
    rw [List.getElem?_take_of_lt hi] at h1
    obtain ⟨m0, k1, k2⟩ := subMs_get e h2
    rw [List.getElem?_take_of_lt hi] at k1
    have nd : a ∉ c.io.drop n := fun md => by
      obtain ⟨j, hj, ej⟩ := List.getElem_of_mem md
      have e2 : c.io[n + j]? = some a := by
        rw [← List.getElem?_drop, List.getElem?_eq_getElem hj, ej]
      have := nodup_at I.nd h1 e2
      omega
    have k := I.cell i a m0 h1 k1
    have hF : c.F a = none → (froz c n).F a = none := fun z => by
      show (if a ∈ c.io.drop n then c.H a else c.F a) = none
      rw [if_neg nd]; exact z
    cases m0 with
    | lst l =>
      obtain ⟨z1, xs, z2, z3⟩ := k
      dsimp only [subM] at k2
      cases el : subs n f l with
      | none => rw [el] at k2; cases k2
      | some l' =>
        rw [el] at k2; cases k2
        exact ⟨hF z1, xs, z2, subs_rep I hf l el z3⟩
    | dct ks l =>
      obtain ⟨z1, xs, z2, z3, z4⟩ := k
      dsimp only [subM] at k2
      cases el : subs n f l with
      | none => rw [el] at k2; cases k2
      | some l' =>
        rw [el] at k2; cases k2
        exact ⟨hF z1, xs, z2, z3, subs_rep I hf l el z4⟩
    | obj x ns l =>
      obtain ⟨z1, dx, fs, z2, z3, z4⟩ := k
      dsimp only [subM] at k2
      cases el : subs n f l with
      | none => rw [el] at k2; cases k2
      | some l' =>
        rw [el] at k2; cases k2
        exact ⟨hF z1, dx, fs, z2, z3, subs_rep I hf l el z4⟩
    | dead => cases k2; exact k
  · obtain ⟨m0, k1, k2⟩ := subMs_get e h
    have hi : i < n := by
      have := (List.getElem?_eq_some_iff.mp k1).1
      rw [List.length_take] at this; omega
    rw [List.getElem?_take_of_lt hi] at k1
    cases m0 with
    | obj x0 ns0 l0 =>
      dsimp only [subM] at k2
      cases el : subs n f l0 with
      | none => rw [el] at k2; cases k2
      | some l' => rw [el] at k2; cases k2; exact I.cls i _ _ _ k1
    | lst l0 =>
      dsimp only [subM] at k2
      cases el : subs n f l0 with
      | none => rw [el] at k2; cases k2
      | some l' => rw [el] at k2; cases k2
    | dct ks l0 =>
      dsimp only [subM] at k2
      cases el : subs n f l0 with
      | none => rw [el] at k2; cases k2
      | some l' => rw [el] at k2; cases k2
    | dead => cases k2
end
end DL
/-! ### two ways to let exceptions out: none of them has a context (false), or they may (true) -/
namespace L2M
open PySem PySem.Spec PyProof.Rows L2
theorem held_imp {h B : Heap} {l : List Env} {a L : Addr} {Z Z' : Obj → Prop} (z : ∀ o, Z o → Z' o) (x : HandSPX.HeldZ B l a Z L h) : HandSPX.HeldZ B l a Z' L h :=
  ⟨x.1, x.2.1, x.2.2.1, L2H.tracedZ_imp z x.2.2.2⟩
theorem sky_imp {h B : Heap} {l : List Env} {a L : Addr} {Z Z' : Obj → Prop} (z : ∀ o, Z o → Z' o) (x : Sky B l a Z L h) : Sky B l a Z' L h := by
  rcases x with ⟨x1, x2, x3, oe, vs, x4, x5, x6⟩ | x | x
  · exact .inl ⟨x1, x2, x3, oe, vs, x4, z _ x5, x6⟩
  · exact .inr (.inl (L2H.flyingZ_imp z x))
  · exact .inr (.inr (held_imp z x))
def CX (md : Bool) (P : Program) (w : World) : CXT := match md with
  | true => L2.CX P w
  | false => L2N.CX P w
def Takes (md : Bool) (X : Cx) (W : WX) : Prop := match md with
  | true => L2.Takes X W
  | false => L2N.Takes X W
theorem takes_n {X : Cx} {W : WX} (h : L2.Takes X W) : L2N.Takes X W := fun u s' ⟨a, B, sI, pins, σ, H, cls, d, e, I, nb, up, sky, r⟩ =>
  h u s' ⟨a, B, sI, pins, σ, H, cls, d, e, I, nb, up, sky_imp (fun _ z => z.zc) sky, r⟩
theorem Takes.n {md : Bool} {X : Cx} {W : WX} (h : Takes md X W) : L2N.Takes X W := match md, h with
  | true, h => takes_n h
  | false, h => h
theorem passAt {md : Bool} {X : Cx} {W : WX} (tk : Takes md X W) (σ : L2.St) : PassesAt (CX md X.prog X.w) X σ (WE W σ) := match md, tk with
  | true, tk => L2.passAt tk σ
  | false, tk => L2N.passAt tk σ
theorem takes_of {md : Bool} {X : Cx} {E : XK} (hs : X.stack = X.env :: X.outer) (hf : X.env.frame = some X.env.locals) (hex : X.ex = []) {E₁ : Value → Shared → Prop}
    (hx : X.xe = fun e s' => wpAny (model X.prog X.w) X.A (leaving X.env e) (fun _ s'' => CX md X.prog X.w X.outer X.H_0 X.s_0 E e s'') E₁ s') : Takes md X (fun cls d _ H => E cls d H) := match md, hx with
  | true, hx => L2.takes_of hs hf hex hx
  | false, hx => L2N.takes_of hs hf hex hx
theorem cx_up {md : Bool} {P : Program} {w : World} {outer : List Env} {H : Hp} {s : Shared} {E : XK} {u : Value} {s' : Shared} (h : L2N.CX P w outer H s E u s') : CX md P w outer H s E u s' := match md with
  | false => h
  | true => by
    obtain ⟨a, B, H', cls, d, e, fl, r⟩ := h
    exact ⟨a, B, H', cls, d, e, L2H.flyingZ_imp (fun _ z => z.zc) fl, r⟩
theorem cx_top {md : Bool} {P : Program} {w : World} {outer : List Env} {H : Hp} {s : Shared} {E : XK} {u : Value} {s' : Shared} (h : CX md P w outer H s E u s') : CX true P w outer H s E u s' := match md, h with
  | true, h => h
  | false, h => cx_up (md := true) h
end L2M
namespace DL
open PySem PySem.Spec PyProof.Rows L2
/-! ### the same, at another number of cells -/
abbrev at0 (S : Sx) (n : Nat) : Sx := ⟨S.K, S.A, n, S.pn, S.cls⟩
section
variable {S : Sx} {n : Nat} {io : List Addr} {F : Hp}
mutual
theorem rep_at : ∀ (d : D) {v : V}, rep (at0 S n) io F d v ↔ rep S io F d v
  | .tup l, v => by
    unfold rep
    exact ⟨fun ⟨a, xs, h1, h2, h3⟩ => ⟨a, xs, h1, h2, (reps_at l).mp h3⟩, fun ⟨a, xs, h1, h2, h3⟩ => ⟨a, xs, h1, h2, (reps_at l).mpr h3⟩⟩
  | .lst l, v => by
    unfold rep
    exact ⟨fun ⟨a, xs, h1, h2, h3⟩ => ⟨a, xs, h1, h2, (reps_at l).mp h3⟩, fun ⟨a, xs, h1, h2, h3⟩ => ⟨a, xs, h1, h2, (reps_at l).mpr h3⟩⟩
  | .dct ks l, v => by
    unfold rep
    exact ⟨fun ⟨a, xs, h1, h2, h3, h4⟩ => ⟨a, xs, h1, h2, h3, (reps_at l).mp h4⟩, fun ⟨a, xs, h1, h2, h3, h4⟩ => ⟨a, xs, h1, h2, h3, (reps_at l).mpr h4⟩⟩
  | .obj c ns l, v => by
    unfold rep
    exact ⟨fun ⟨a, dx, xs, h1, h2, h3, h4, h5⟩ => ⟨a, dx, xs, h1, h2, h3, (reps_at l).mp h4, h5⟩, fun ⟨a, dx, xs, h1, h2, h3, h4, h5⟩ => ⟨a, dx, xs, h1, h2, h3, (reps_at l).mpr h4, h5⟩⟩
  | .exc c ns l, v => by
    unfold rep
    exact ⟨fun ⟨a, oe, d, h1, h2, h3, h4, h5⟩ => ⟨a, oe, d, h1, h2, h3, h4, h5.imp id fun ⟨dd, fs, k1, k2, k3, k4⟩ => ⟨dd, fs, k1, k2, k3, (reps_at l).mp k4⟩⟩,
      fun ⟨a, oe, d, h1, h2, h3, h4, h5⟩ => ⟨a, oe, d, h1, h2, h3, h4, h5.imp id fun ⟨dd, fs, k1, k2, k3, k4⟩ => ⟨dd, fs, k1, k2, k3, (reps_at l).mpr k4⟩⟩⟩
  | .non, v => by unfold rep; exact Iff.rfl
  | .txt, v => by unfold rep; exact Iff.rfl
  | .bl _, v => by unfold rep; exact Iff.rfl
  | .int _, v => by unfold rep; exact Iff.rfl
  | .str _, v => by unfold rep; exact Iff.rfl
  | .ty _, v => by unfold rep; exact Iff.rfl
  | .glo _, v => by unfold rep; exact Iff.rfl
  | .scr _, v => by unfold rep; exact Iff.rfl
  | .cel _, v => by unfold rep; exact Iff.rfl
theorem reps_at : ∀ (l : List D) {vs : List V}, reps (at0 S n) io F l vs ↔ reps S io F l vs
  | [], vs => by unfold reps; exact Iff.rfl
  | d :: l, vs => by
    unfold reps
    exact ⟨fun ⟨x, r, h1, h2, h3⟩ => ⟨x, r, h1, (rep_at d).mp h2, (reps_at l).mp h3⟩, fun ⟨x, r, h1, h2, h3⟩ => ⟨x, r, h1, (rep_at d).mpr h2, (reps_at l).mpr h3⟩⟩
end
theorem cell_at {c : Cf} {a : Addr} : ∀ {m : M}, cellOk (at0 S n) c a m ↔ cellOk S c a m
  | .lst l => ⟨fun ⟨h1, xs, h2, h3⟩ => ⟨h1, xs, h2, (reps_at l).mp h3⟩, fun ⟨h1, xs, h2, h3⟩ => ⟨h1, xs, h2, (reps_at l).mpr h3⟩⟩
  | .dct ks l => ⟨fun ⟨h1, xs, h2, h3, h4⟩ => ⟨h1, xs, h2, h3, (reps_at l).mp h4⟩, fun ⟨h1, xs, h2, h3, h4⟩ => ⟨h1, xs, h2, h3, (reps_at l).mpr h4⟩⟩
  | .obj x ns l => ⟨fun ⟨h1, dx, xs, h2, h3, h4⟩ => ⟨h1, dx, xs, h2, h3, (reps_at l).mp h4⟩, fun ⟨h1, dx, xs, h2, h3, h4⟩ => ⟨h1, dx, xs, h2, h3, (reps_at l).mpr h4⟩⟩
  | .dead => Iff.rfl
theorem SI_at {c : Cf} {μ : List M} : SI (at0 S n) c μ ↔ SI S c μ :=
  ⟨fun h => ⟨h.ex, h.len, h.nd, fun i a m h1 h2 => cell_at.mp (h.cell i a m h1 h2), h.cls⟩, fun h => ⟨h.ex, h.len, h.nd, fun i a m h1 h2 => cell_at.mpr (h.cell i a m h1 h2), h.cls⟩⟩
theorem xrep_at {c : Cf} {ns : List Str} {l : List D} {dd : Option Addr} : xrep (at0 S n) c ns l dd ↔ xrep S c ns l dd :=
  ⟨fun h => h.imp id fun ⟨a, fs, h1, h2, h3, h4⟩ => ⟨a, fs, h1, h2, h3, (reps_at l).mp h4⟩, fun h => h.imp id fun ⟨a, fs, h1, h2, h3, h4⟩ => ⟨a, fs, h1, h2, h3, (reps_at l).mpr h4⟩⟩
/-- a callee's step is a caller's -/
theorem Step.up {c c' : Cf} (s : Step (at0 S c.io.length) c c') : Step S c c' :=
  ⟨s.pre, s.nd, s.exF, fun p h1 h2 h3 => by
    obtain ⟨i, hi, e⟩ := s.frz p h1 h2 h3
    exact absurd (List.getElem?_eq_some_iff.mp e).1 (Nat.not_lt.mpr hi), s.keep, s.new, s.som⟩
end
/-! ### what a def promises -/
def CQ (S : Sx) (c : Cf) (Q : VK) (E : XK) : Out D → Prop
  | .ok d μ => ∀ v c', Step (at0 S c.io.length) c c' → c'.io = c.io → SI S c' μ → rep S c'.io c'.F d v → Q v c'.H
  | .ex x ns l μ => ∀ dd c', Step (at0 S c.io.length) c c' → c'.io = c.io → SI S c' μ → xrep S c' ns l dd → E (.ref (S.A x)) dd c'.H
  | .stuck => False
abbrev GF := List D → List M → Out D
def spD (S : Sx) (np : Nat) (G : GF) : Sp := fun vs H Q E => ∃ ds io μ F, vs.length = np ∧ SI S ⟨io, F, H⟩ μ ∧ reps S io F ds vs ∧ CQ S ⟨io, F, H⟩ Q E (G ds μ)
def start (nN : Nat) (ds : List D) : En := ds.map some ++ List.replicate (nN - ds.length) none
def fnG (nN np : Nat) (body : DS) : GF := fun ds μ => if ds.length = np then fin μ.length (body (start nN ds) μ) else .stuck
theorem start_ok {S : Sx} {c : Cf} {N : List Str} {ds : List D} {vs : List V} (r : reps S c.io c.F ds vs) : EnvOk S c (start N.length ds) (L2.start N vs) := by
  refine ⟨?_, fun i d h => ?_⟩
  · unfold start L2.start
    rw [List.length_append, List.length_append, List.length_map, List.length_map, List.length_replicate, List.length_replicate, r.len]
  · unfold start at h
    by_cases hi : i < ds.length
    · rw [List.getElem?_append_left (by rw [List.length_map]; exact hi), List.getElem?_map] at h
      cases e : ds[i]? with
      | none => rw [e] at h; cases h
      | some d' =>
        rw [e] at h
        have hd : d' = d := by simpa using h
        subst hd
        obtain ⟨x, k1, k2⟩ := r.get e
        refine ⟨x, ?_, k2⟩
        unfold L2.start
        rw [List.getElem?_append_left (by rw [List.length_map, ← r.len]; exact hi), List.getElem?_map, k1]; rfl
    · rw [List.getElem?_append_right (by rw [List.length_map]; omega), List.getElem?_replicate] at h
      split at h <;> cases h
theorem froz_step {S : Sx} {c c' : Cf} {μ : List M} {n : Nat} (I : SI S c' μ) (hn : n = c.io.length) (s : Step (at0 S n) c c') : Step (at0 S n) c (froz c' n) ∧ (froz c' n).io = c.io := by
  have e : c'.io.take n = c.io := by
    obtain ⟨z, e⟩ := s.pre
    rw [← e, hn, List.take_left]
  refine ⟨⟨?_, I.nd.sublist (List.take_sublist _ _), s.exF.trans (froz_ex I n), fun p h1 h2 h3 => ?_, s.keep, fun p h1 h2 => ?_, s.som⟩, e⟩
  · show c.io <+: c'.io.take n
    rw [e]; exact List.prefix_refl _
  · have h3 : (if p ∈ c'.io.drop n then c'.H p else c'.F p) ≠ none := h3
    by_cases m : p ∈ c'.io.drop n
    · have m' : p ∈ c'.io := List.mem_of_mem_drop m
      have ni : p ∉ c.io := fun q => by
        rw [← e] at q
        have hnd := I.nd
        rw [← List.take_append_drop n c'.io] at hnd
        exact (List.nodup_append.mp hnd).2.2 p q p m rfl
      exact absurd (s.new p m' ni) h1
    · rw [if_neg m] at h3
      exact s.frz p h1 h2 h3
  · have h1 : p ∈ c'.io.take n := h1
    rw [e] at h1
    exact absurd h1 h2
theorem body_of {S : Sx} {c : Cf} {Q : VK} {E : XK} {n : Nat} (hn : n = c.io.length) : ∀ {o : SO}, CQ S c Q E (fin n o) → SQ (at0 S n) (fun cls d _ H => E cls d H) c { nx := fun _ H' => Q .non H', rt := Q } o
  | .rt d μ, h => fun v c' s I r => by
    dsimp only [fin] at h
    have I0 := SI_at.mp I
    cases e : finD n μ d with
    | none => rw [e] at h; exact False.elim h
    | some p =>
      obtain ⟨d', μ'⟩ := p
      rw [e] at h
      unfold finD at e
      cases e1 : sub n (rsv n μ 20) d with
      | none => rw [e1] at e; cases e
      | some d1 =>
        rw [e1] at e
        cases e2 : subMs n (rsv n μ 20) (μ.take n) with
        | none => rw [e2] at e; cases e
        | some μ1 =>
          rw [e2] at e; cases e
          obtain ⟨s2, ei⟩ := froz_step I0 hn s
          subst hn
          exact h v (froz c' c.io.length) s2 ei (froz_SI I0 (rsv_rep I0 20) e2) (sub_rep I0 (rsv_rep I0 20) d e1 ((rep_at d).mp r))
  | .nx en μ, h => fun σ' c' s I en' => by
    dsimp only [fin] at h
    have I0 := SI_at.mp I
    cases e : finD n μ .non with
    | none => rw [e] at h; exact False.elim h
    | some p =>
      obtain ⟨d', μ'⟩ := p
      rw [e] at h
      unfold finD at e
      cases e1 : sub n (rsv n μ 20) .non with
      | none => rw [e1] at e; cases e
      | some d1 =>
        rw [e1] at e
        cases e2 : subMs n (rsv n μ 20) (μ.take n) with
        | none => rw [e2] at e; cases e
        | some μ1 =>
          rw [e2] at e; cases e
          obtain ⟨s2, ei⟩ := froz_step I0 hn s
          subst hn
          exact h .non (froz c' c.io.length) s2 ei (froz_SI I0 (rsv_rep I0 20) e2) (sub_rep I0 (rsv_rep I0 20) .non e1 (rep_non.mpr rfl))
  | .ex x ns l en μ, h => fun dd σ' c' s I en' r => by
    dsimp only [fin] at h
    have I0 := SI_at.mp I
    cases e : finL n μ l with
    | none => rw [e] at h; exact False.elim h
    | some p =>
      obtain ⟨l', μ'⟩ := p
      rw [e] at h
      unfold finL at e
      cases e1 : subs n (rsv n μ 20) l with
      | none => rw [e1] at e; cases e
      | some d1 =>
        rw [e1] at e
        cases e2 : subMs n (rsv n μ 20) (μ.take n) with
        | none => rw [e2] at e; cases e
        | some μ1 =>
          rw [e2] at e; cases e
          obtain ⟨s2, ei⟩ := froz_step I0 hn s
          subst hn
          refine h dd (froz c' c.io.length) s2 ei (froz_SI I0 (rsv_rep I0 20) e2) ?_
          rcases xrep_at.mp r with ⟨h5, h6, h7⟩ | ⟨a, fs, h5, h6, h7, h8⟩
          · subst h6
            cases (show some [] = some l' from e1)
            exact Or.inl ⟨h5, rfl, h7⟩
          · exact Or.inr ⟨a, fs, h5, froz_ex I0 _ _ _ h6, h7, subs_rep I0 (rsv_rep I0 20) l e1 h8⟩
  | .bk _ _, h => False.elim h
  | .ct _ _, h => False.elim h
  | .stuck, h => False.elim h
section
variable {P : Program} {w : World} {K : PySem.W.Frag} {mg : Str → Option Value} {base : Heap} {x qual : Str} {params : Arguments} {body : List Stmt} {scope : Scope} {dvs : List V} {kws : List (Str × V)} {f : Addr} {fd : FuncData}
theorem fnD_ok {N ps : List Str} {k : Nat} {S : Sx} {D : DS} (F : FunD K x qual params body scope dvs kws f fd) (Sc : FnScope N ps scope)
    (hb : ∀ (n : Nat) (cdv : Value) (A : Around) (outer : List Env) (s : Shared) (H : Hp) (E : XK), Room k (A.deeper (envOfC qual scope s.heap.objs.size f cdv)) →
      PDSs (cxOf (L2M.CX md P w) P w K mg base N qual scope f cdv A outer s H E) (at0 S n) (fun cls d _ H => E cls d H) body D) :
    FnOk P w K mg base (L2M.CX md P w) (k + 1) f fd ps (spD S ps.length (fnG N.length ps.length D)) := by
  refine F.ok Sc (fun vs H Q E h => ?_) (fun cdv A outer s H vs Q E hr h => ?_)
  · obtain ⟨_, _, _, _, h, _⟩ := h
    exact h
  · obtain ⟨ds, io, μ, F0, hl, I, r, q⟩ := h
    obtain ⟨t, p, kk⟩ := (hb io.length cdv A outer s H E hr).ex
    refine ⟨t, p, kk (start N.length ds) (L2.start N vs) ⟨io, F0, H⟩ μ _ (SI_at.mpr I) (start_ok ((reps_at ds).mpr r)) ?_⟩
    have e : ds.length = ps.length := r.len.trans hl
    have q : CQ S ⟨io, F0, H⟩ Q E (if ds.length = ps.length then fin μ.length (D (start N.length ds) μ) else .stuck) := q
    rw [if_pos e, show μ.length = io.length from I.len.symm] at q
    exact body_of rfl q
end
/-! ### calls -/
def dCall (np : Nat) (G : GF) (dd : List D) (ds : DA) : DE := fun env μ => (ds env μ).bind fun l μ1 => if (l ++ dd).length = np then G (l ++ dd) μ1 else .stuck
theorem call_sp {S : Sx} {W : WX} {σ : St} {c : Cf} {μ : List M} {Q : VK} {np : Nat} {G : GF} {l : List D} {vs : List V} (I : SI S c μ) (r : reps S c.io c.F l vs) (hn : l.length = np) (q : EQ S W σ c Q (G l μ)) :
    spD S np G vs c.H Q (WE W σ) := by
  refine ⟨l, c.io, μ, c.F, by rw [← r.len]; exact hn, I, r, ?_⟩
  cases e : G l μ with
  | ok d μ' => rw [e] at q; exact fun v c' s _ I' r' => q v c' s.up I' r'
  | ex x ns l' μ' => rw [e] at q; exact fun dd c' s _ I' r' => q dd c' s.up I' r'
  | stuck => rw [e] at q; exact q
section
variable {X : Cx} {S : Sx} {W : WX} {e o : Expr} {es : List Expr} {da d : DE} {ds : DA} {pos p : Pos} {k : Nat} {x : Str} {f : Addr} {fd : FuncData} {ps : List Str} {np : Nat} {G : GF} {dd : List D} {dvs : List V} {dV : List Value}
/-- the defaults of a def -/
structure DflD (S : Sx) (K : PySem.W.Frag) (fd : FuncData) (ps : List Str) (dd : List D) : Prop where
  ex : ∃ (dvs : List V) (dV : List Value), Binds K fd ps dV ∧ Vals dvs dV ∧ ∀ io F, reps S io F dd dvs
theorem dfl_none {S : Sx} {K : PySem.W.Frag} (hb : Binds K fd ps []) : DflD S K fd ps [] := ⟨[], [], hb, .nil, fun _ _ => .nil⟩
theorem pd_call (F : FnOk X.prog X.w X.K X.mg X.base (L2M.CX md X.prog X.w) k f fd ps (spD (at0 S 0) np G)) (hr : Room k X.A) (tk : L2M.Takes md X W) (hg : Gl X x) (hm : X.mg x = some (.ref f)) (hk : PySem.W.keepIn X.K (.ref f) = true) (hb : DflD S X.K fd ps dd)
    (ha : PDA X S W (e :: es) ds) (hdb : (x == ("__debug__" : Str)) = false := by decide) (he : starEach (e :: es) X.env = (false, eval e X.env) :: starEach es X.env := by rfl) (hpl : (backTo pos (starEach es X.env)).any (·.1) = false := by rfl) :
    PDE X S W (.Call (.Name x p) (e :: es) [] pos) (dCall np G dd ds) := by
  obtain ⟨t, pa, ka⟩ := ha.ex
  obtain ⟨dvs, dV, h1, h2, h3⟩ := hb.ex
  refine ⟨_, pe_callSD F hr hg hm hk h1 h2 (fun σ => L2M.passAt tk σ) pa hdb he hpl, fun env σ c μ Q I en q => ?_⟩
  refine (show t σ c.H fun vs H1 => spD (at0 S 0) np G (vs ++ dvs) H1 Q (WE W σ) from ?_)
  refine bindAE (fun Q' => ka env σ c μ Q' I en) q fun l μ1 vs c1 s1 I1 r1 q1 => ?_
  by_cases hn : (l ++ dd).length = np
  · rw [if_pos hn] at q1
    obtain ⟨ds', io, μ', F', k1, k2, k3, k4⟩ := call_sp I1 (r1.append (h3 _ _)) hn q1
    refine ⟨ds', io, μ', F', k1, SI_at.mpr k2, (reps_at _).mpr k3, ?_⟩
    cases eo : G ds' μ' with
    | ok d μ2 => rw [eo] at k4; exact fun v c' s ei I' r' => k4 v c' s ei (SI_at.mp I') ((rep_at _).mp r')
    | ex y ns l' μ2 => rw [eo] at k4; exact fun dd c' s ei I' r' => k4 dd c' s ei (SI_at.mp I') (xrep_at.mp r')
    | stuck => rw [eo] at k4; exact k4
  · rw [if_neg hn] at q1; exact False.elim q1
end
end DL
namespace DL
open PySem PySem.Spec PyProof.Rows L2
section
variable {X : Cx} {S : Sx} {W : WX} {a b e o : Expr} {es : List Expr} {da db d : DE} {ds : DA} {pos p : Pos} {k : Nat}
/-! ### types -/
abbrev Ty := Sum String Str
def tagOf (μ : List M) : D → Option Ty
  | .non => some (.inl "NoneType")
  | .bl _ => some (.inl "bool")
  | .int _ => some (.inl "int")
  | .str _ => some (.inl "str")
  | .txt => some (.inl "str")
  | .tup _ => some (.inl "tuple")
  | .lst _ => some (.inl "list")
  | .dct _ _ => some (.inl "dict")
  | .obj c _ _ => some (.inr c)
  | .cel i => match μ[i]? with
    | some (.lst _) => some (.inl "list")
    | some (.dct _ _) => some (.inl "dict")
    | some (.obj c _ _) => some (.inr c)
    | _ => none
  | _ => none
def tyv (S : Sx) : Ty → Value
  | .inl n => .type n
  | .inr c => .ref (S.A c)
/-- what is known of an own class, for isinstance -/
structure InsF (K : PySem.W.Frag) (C : Addr) : Prop where
  cl : Cls K C
  ha : PySem.W.findIn K (.ref C) "__class__" = some (some (.builtin "object.__class__"))
  hn : PySem.W.specialIn K (.builtin "object.__class__") "__get__" = some (some (.builtin "getset_descriptor.__get__"))
  ht : PySem.W.takesIn K (.builtin "object.__class__") = some true
  hm : PySem.W.mroIn K C (.type "object") = some true
theorem tag_at {c : Cf} {μ : List M} {d : D} {v : V} {t : Ty} (hF : ∀ x ∈ S.cls, InsF S.K (S.A x)) (I : SI S c μ) (r : rep S c.io c.F d v) (h : tagOf μ d = some t) : TyX S.K c.H v (tyv S t) := by
  have own : ∀ {a dx : Addr} {fs : List (Str × V)} {x : Str}, c.H a = some (.ins (S.A x) dx fs) → x ∈ S.cls → TyX S.K c.H (.ref a) (tyv S (.inr x)) := fun {a dx fs x} e m => .base (.ins e (hF x m).cl (hF x m).ha (hF x m).hn (hF x m).ht (hF x m).hm)
  cases d with
  | non => cases (show some (Sum.inl "NoneType" : Ty) = some t from h); rw [rep_non.mp r]; exact .base .non
  | bl k => cases (show some (Sum.inl "bool" : Ty) = some t from h); rw [rep_bl.mp r]; exact .base (.bl _)
  | int k => cases (show some (Sum.inl "int" : Ty) = some t from h); rw [rep_int.mp r]; exact .base (.int _)
  | str k => cases (show some (Sum.inl "str" : Ty) = some t from h); rw [(rep_str.mp r).1]; exact .base (.str _)
  | txt =>
    cases (show some (Sum.inl "str" : Ty) = some t from h)
    unfold rep at r
    obtain ⟨m, rfl⟩ := r
    exact .base (.str _)
  | tup l =>
    cases (show some (Sum.inl "tuple" : Ty) = some t from h)
    unfold rep at r
    obtain ⟨a, xs, rfl, h2, _⟩ := r
    rcases h2 with (h2 | ⟨ob, h2⟩) | ⟨ob, its, n, h2, h3, _⟩
    · exact .base (.tup (I.ex _ _ h2))
    · exact .fTuple (I.ex _ _ h2)
    · exact .kTuple h2 h3
  | lst l =>
    cases (show some (Sum.inl "list" : Ty) = some t from h)
    unfold rep at r
    obtain ⟨a, xs, rfl, h2, _⟩ := r
    exact .base (.lst (I.ex _ _ h2))
  | dct ks l =>
    cases (show some (Sum.inl "dict" : Ty) = some t from h)
    unfold rep at r
    obtain ⟨a, xs, rfl, h2, _⟩ := r
    exact .base (.dK (I.ex _ _ h2))
  | obj x ns l =>
    cases (show some (Sum.inr x : Ty) = some t from h)
    unfold rep at r
    obtain ⟨a, dx, fs, rfl, h2, _, _, h5⟩ := r
    exact own (I.ex _ _ h2) h5
  | cel i =>
    unfold rep at r
    obtain ⟨a, rfl, h2⟩ := r
    dsimp only [tagOf] at h
    cases e : μ[i]? with
    | none => rw [e] at h; cases h
    | some m =>
      rw [e] at h
      cases m with
      | lst l =>
        cases (show some (Sum.inl "list" : Ty) = some t from h)
        obtain ⟨_, xs, k2, _⟩ := I.cell i a _ h2 e
        exact .base (.lst k2)
      | dct ks l =>
        cases (show some (Sum.inl "dict" : Ty) = some t from h)
        obtain ⟨_, xs, k2, _⟩ := I.cell i a _ h2 e
        exact .base (.dK k2)
      | obj x ns l =>
        cases (show some (Sum.inr x : Ty) = some t from h)
        obtain ⟨_, dx, fs, k2, _⟩ := I.cell i a _ h2 e
        exact own k2 (I.cls i _ _ _ e)
      | dead => cases h
  | _ => cases h
/-! ### calls of built-ins -/
structure PDB (X : Cx) (S : Sx) (f : Value) (g : List M → List D → Option D) : Prop where
  ex : ∃ r, CallR X f r ∧ ∀ c μ xs l d Q, SI S c μ → reps S c.io c.F l xs → g μ l = some d → (∀ v c', Step S c c' → SI S c' μ → rep S c'.io c'.F d v → Q v c'.H) → r xs c.H Q
def dBlt (g : List M → List D → Option D) (ds : DA) : DE := fun env μ => (ds env μ).bind fun l μ1 => match g μ1 l with
  | some d => .ok d μ1
  | none => .stuck
theorem blt_run {r : List V → Hp → VK → Prop} {g : List M → List D → Option D} {ta : TA}
    (hr : ∀ c μ xs l d Q, SI S c μ → reps S c.io c.F l xs → g μ l = some d → (∀ v c', Step S c c' → SI S c' μ → rep S c'.io c'.F d v → Q v c'.H) → r xs c.H Q)
    (ka : ∀ env σ c μ Q, SI S c μ → EnvOk S c env σ → AQ S W σ c Q (ds env μ) → ta σ c.H Q) : ∀ env σ c μ Q, SI S c μ → EnvOk S c env σ → EQ S W σ c Q (dBlt g ds env μ) → tCB r ta σ c.H Q := by
  intro env σ c μ Q I en q
  refine (show ta σ c.H fun vs H1 => r vs H1 Q from ?_)
  refine bindAE (fun Q' => ka env σ c μ Q' I en) q fun l μ1 vs c1 s1 I1 r1 q1 => ?_
  cases e1 : g μ1 l with
  | none => rw [e1] at q1; exact False.elim q1
  | some d =>
    rw [e1] at q1
    exact hr c1 μ1 vs l d Q I1 r1 e1 q1
theorem pd_blt {x : Str} {id : String} {g : List M → List D → Option D} (o : PDB X S (.builtin id) g) (hg : Gl X x) (hm : X.mg x = none) (hv : bootBuiltins x = some (.builtin id)) (ha : PDA X S W (e :: es) ds)
    (hx : x ≠ "__name__" := by decide) (hdb : (x == ("__debug__" : Str)) = false := by decide) (he : starEach (e :: es) X.env = (false, eval e X.env) :: starEach es X.env := by rfl) (hpl : (backTo pos (starEach es X.env)).any (·.1) = false := by rfl) :
    PDE X S W (.Call (.Name x p) (e :: es) [] pos) (dBlt g ds) := by
  obtain ⟨r, hr, kr⟩ := o.ex
  obtain ⟨t, pa, ka⟩ := ha.ex
  exact ⟨_, pe_callB hr hg hm hv pa hx hdb he hpl, blt_run kr ka⟩
theorem pd_bty {x : Str} {T : String} {g : List M → List D → Option D} (o : PDB X S (.type T) g) (hg : Gl X x) (hm : X.mg x = none) (hv : bootBuiltins x = some (.type T)) (ha : PDA X S W (e :: es) ds)
    (hx : x ≠ "__name__" := by decide) (hdb : (x == ("__debug__" : Str)) = false := by decide) (he : starEach (e :: es) X.env = (false, eval e X.env) :: starEach es X.env := by rfl) (hpl : (backTo pos (starEach es X.env)).any (·.1) = false := by rfl) :
    PDE X S W (.Call (.Name x p) (e :: es) [] pos) (dBlt g ds) := by
  obtain ⟨r, hr, kr⟩ := o.ex
  obtain ⟨t, pa, ka⟩ := ha.ex
  exact ⟨_, pe_callTy hr hg hm hv pa hx hdb he hpl, blt_run kr ka⟩
/-- a built-in class as a value -/
theorem pd_bvl {x : Str} {T : String} (hg : Gl X x) (hm : X.mg x = none) (hv : bootBuiltins x = some (.type T)) (hx : x ≠ "__name__" := by decide) (hdb : (x == ("__debug__" : Str)) = false := by decide) : PDE X S W (.Name x pos) (dC (.ty T)) :=
  of_tC (v := .ty T) (pe_bltn hg hm hv rfl hx hdb) fun _ _ => by unfold rep; rfl
/-- a def or class of the module as a value -/
theorem pd_glo {x : Str} (hg : Gl X x) (hm : X.mg x = some (.ref (S.A x))) (hdb : (x == ("__debug__" : Str)) = false := by decide) : PDE X S W (.Name x pos) (dC (.glo x)) :=
  of_tC (v := .ref (S.A x)) (pe_glob hg hm rfl hdb) fun _ _ => by unfold rep; rfl
/-! isinstance -/
def supers : List (Str × Str) := [("PutRows", "OfRows"), ("PutRows", "Lines"), ("PutRows", "Change"), ("TakeRows", "OfRows"), ("TakeRows", "Lines"), ("TakeRows", "Change"), ("PutColumns", "OfColumns"), ("PutColumns", "Lines"), ("PutColumns", "Change"),
  ("TakeColumns", "OfColumns"), ("TakeColumns", "Lines"), ("TakeColumns", "Change"), ("Move", "Change"), ("Lines", "Change"), ("OfRows", "Lines"), ("OfColumns", "Lines"), ("OfRows", "Change"), ("OfColumns", "Change")]
def isSub : Ty → Ty → Bool
  | .inl a, .inl b => a == b || (a == "bool" && b == "int")
  | .inr a, .inr b => a == b || supers.contains (a, b)
  | _, _ => false
def clsD : D → Option Ty
  | .ty n => some (.inl n)
  | .glo x => some (.inr x)
  | _ => none
def plainTys : List String := ["NoneType", "bool", "int", "str", "tuple", "list", "dict"]
def tysOf (S : Sx) : List Ty := plainTys.map .inl ++ S.cls.map .inr
def KitF (S : Sx) (u : Ty) : Prop := ∀ t ∈ tysOf S, PySem.W.kitOne S.K (tyv S t) (tyv S u) = some (isSub t u)
theorem tag_mem {c : Cf} {μ : List M} {d : D} {v : V} {t : Ty} (I : SI S c μ) (r : rep S c.io c.F d v) (h : tagOf μ d = some t) : t ∈ tysOf S := by
  have pl : ∀ n, n ∈ plainTys → (Sum.inl n : Ty) ∈ tysOf S := fun n m => List.mem_append_left _ (List.mem_map_of_mem m)
  have ow : ∀ x, x ∈ S.cls → (Sum.inr x : Ty) ∈ tysOf S := fun x m => List.mem_append_right _ (List.mem_map_of_mem m)
  cases d with
  | non => cases (show some (Sum.inl "NoneType" : Ty) = some t from h); exact pl _ (by decide)
  | bl k => cases (show some (Sum.inl "bool" : Ty) = some t from h); exact pl _ (by decide)
  | int k => cases (show some (Sum.inl "int" : Ty) = some t from h); exact pl _ (by decide)
  | str k => cases (show some (Sum.inl "str" : Ty) = some t from h); exact pl _ (by decide)
  | tup l => cases (show some (Sum.inl "tuple" : Ty) = some t from h); exact pl _ (by decide)
  | lst l => cases (show some (Sum.inl "list" : Ty) = some t from h); exact pl _ (by decide)
  | dct ks l => cases (show some (Sum.inl "dict" : Ty) = some t from h); exact pl _ (by decide)
  | obj x ns l =>
    cases (show some (Sum.inr x : Ty) = some t from h)
    unfold rep at r
    obtain ⟨a, dx, fs, _, _, _, _, h5⟩ := r
    exact ow x h5
  | txt => cases (show some (Sum.inl "str" : Ty) = some t from h); exact pl _ (by decide)
  | cel i =>
    dsimp only [tagOf] at h
    cases e : μ[i]? with
    | none => rw [e] at h; cases h
    | some m =>
      rw [e] at h
      cases m with
      | lst l => cases (show some (Sum.inl "list" : Ty) = some t from h); exact pl _ (by decide)
      | dct ks l => cases (show some (Sum.inl "dict" : Ty) = some t from h); exact pl _ (by decide)
      | obj x ns l => cases (show some (Sum.inr x : Ty) = some t from h); exact ow x (I.cls i _ _ _ e)
      | dead => cases h
  | _ => cases h
/-- isinstance against the class u -/
def bIsU (u : Ty) (μ : List M) : List D → Option D
  | [x, c] => if clsD c = some u then match tagOf μ x with
    | some t => some (.bl (isSub t u))
    | none => none
    else none
  | _ => none
theorem pb_isi (hK : X.K = S.K) (hF : ∀ x ∈ S.cls, InsF S.K (S.A x)) {u : Ty} (hu : KitF S u) : PDB X S (.builtin "isinstance") (bIsU u) := by
  refine ⟨_, call_isi, fun c μ xs l d Q I r e k => ?_⟩
  unfold bIsU at e
  split at e
  · rename_i x cc
    split at e
    · rename_i hc
      cases et : tagOf μ x with
      | none => rw [et] at e; cases e
      | some t =>
        rw [et] at e
        obtain rfl := Option.some.inj e
        obtain ⟨v, r0, rfl, r1, r2⟩ := r.uncons
        obtain ⟨v2, r0, rfl, r3, r4⟩ := r2.uncons
        rw [r4.eq_nil]
        have cv : ClsV v2 (tyv S u) := by
          cases cc with
          | ty n => cases (show some (Sum.inl n : Ty) = some u from hc); rw [rep_ty.mp r3]; exact .ty n
          | glo x => cases (show some (Sum.inr x : Ty) = some u from hc); rw [rep_glo.mp r3]; exact .own _
          | _ => cases hc
        refine ⟨v, v2, tyv S t, tyv S u, isSub t u, rfl, cv, ?_, ?_, k _ c I.step I (rep_bl.mpr rfl)⟩
        · rw [hK]; exact tag_at hF I r1 et
        · rw [hK]; exact hu t (tag_mem I r1 et)
    · cases e
  · cases e
/-! len -/
def bLen (μ : List M) : List D → Option D
  | [.str z] => if z.length ≤ 100000 then some (.int z.length) else none
  | [x] => match seqOf μ x with
    | some l => some (.int l.length)
    | none => none
  | _ => none
/-! int, min, max, list, tuple, divmod, all, any, str -/
def bInt (_ : List M) : List D → Option D
  | [.int i] => some (.int i)
  | [.bl b] => some (.int (if b = true then 1 else 0))
  | _ => none
def bMax (_ : List M) : List D → Option D
  | [.int i, .int j] => some (.int (if j > i then j else i))
  | _ => none
theorem pb_max (hc : X.calm = true) : PDB X S (.builtin "max") bMax := by
  refine ⟨_, call_max2 hc, fun c μ xs l d Q I r e k => ?_⟩
  unfold bMax at e
  split at e
  · obtain rfl := Option.some.inj e
    obtain ⟨v, r0, rfl, r1, r2⟩ := r.uncons
    obtain ⟨v2, r0, rfl, r3, r4⟩ := r2.uncons
    rw [r4.eq_nil, rep_int.mp r1, rep_int.mp r3]
    exact ⟨_, _, rfl, k _ c I.step I (rep_int.mpr rfl)⟩
  · cases e
def bools : List D → Option (List Bool)
  | [] => some []
  | .bl b :: l => (bools l).map (b :: ·)
  | _ => none
theorem bools_at {io : List Addr} {F : Hp} : ∀ {l : List D} {xs : List V} {bs : List Bool}, reps S io F l xs → bools l = some bs → xs = bs.map V.bl
  | [], xs, bs, r, e => by cases (show some [] = some bs from e); rw [r.eq_nil]; rfl
  | .bl b :: l, xs, bs, r, e => by
    cases eb : bools l with
    | none => unfold bools at e; rw [eb] at e; cases e
    | some bs' =>
      unfold bools at e
      rw [eb] at e
      cases e
      obtain ⟨x, q, rfl, r1, r2⟩ := r.uncons
      rw [rep_bl.mp r1, bools_at r2 eb]; rfl
  | .non :: _, _, _, _, e => by cases e
  | .txt :: _, _, _, _, e => by cases e
  | .int _ :: _, _, _, _, e => by cases e
  | .str _ :: _, _, _, _, e => by cases e
  | .ty _ :: _, _, _, _, e => by cases e
  | .glo _ :: _, _, _, _, e => by cases e
  | .tup _ :: _, _, _, _, e => by cases e
  | .lst _ :: _, _, _, _, e => by cases e
  | .dct _ _ :: _, _, _, _, e => by cases e
  | .obj _ _ _ :: _, _, _, _, e => by cases e
  | .cel _ :: _, _, _, _, e => by cases e
  | .scr _ :: _, _, _, _, e => by cases e
  | .exc _ _ _ :: _, _, _, _, e => by cases e
def bAll (μ : List M) : List D → Option D
  | [x] => match lstOf μ x with
    | some l => (bools l).map fun bs => .bl (bs.all id)
    | none => none
  | _ => none
theorem pb_all (hK : X.K = S.K) (hc : X.calm = true) : PDB X S (.builtin "all") bAll := by
  refine ⟨_, cr_all hc, fun c μ xs l d Q I r e k => ?_⟩
  unfold bAll at e
  split at e
  · rename_i x
    cases es : lstOf μ x with
    | none => rw [es] at e; cases e
    | some l =>
      rw [es] at e
      dsimp only at e
      cases eb : bools l with
      | none => rw [eb] at e; cases e
      | some bs =>
        rw [eb] at e
        obtain rfl := Option.some.inj e
        obtain ⟨v, r0, rfl, r1, r2⟩ := r.uncons
        obtain ⟨a, ys, rfl, h2, h3⟩ := lst_at I r1 es
        rw [bools_at h3 eb] at h2
        rw [r2.eq_nil]
        exact ⟨a, bs, rfl, by rw [hK]; exact sq_of h2, k _ c I.step I (rep_bl.mpr rfl)⟩
  · cases e
theorem okS_of (s : String) : okS (Str.ofString s) = true := by
  have e : Str.ofString s = ⟨(s.toList.map Char.toNat).toArray⟩ := by
    first
    | exact Str.ofString_eq_toList s
    | exact PySem.Str.ofString_eq_toList s
  rw [e]
  unfold okS
  rw [← Array.all_toList, List.all_eq_true]
  intro n hn
  have hn' : n ∈ s.toList.map Char.toNat := by simpa using hn
  obtain ⟨ch, _, rfl⟩ := List.mem_map.mp hn'
  have hv := ch.valid
  have h2 : ch.toNat < 0x110000 := by
    rcases hv with h1 | h1
    · have : ch.toNat < 0xd800 := h1
      omega
    · exact h1.2
  exact decide_eq_true h2
end
end DL
namespace DL
open PySem PySem.Spec PyProof.Rows L2
section
variable {X : Cx} {S : Sx} {W : WX} {a b e o : Expr} {es : List Expr} {da db d : DE} {ds : DA} {pos p : Pos} {k : Nat} {x : Str} {f : Addr} {fd : FuncData} {ps : List Str} {np : Nat} {G : GF} {dd : List D}
/-! ### o.f = e -/
def putD (f : Str) (d : D) : List Str → List D → List Str × List D
  | n :: ns, y :: l => if n = f then (n :: ns, d :: l) else ((n :: (putD f d ns l).1), (y :: (putD f d ns l).2))
  | _, _ => ([f], [d])
theorem putD_reps {io : List Addr} {F : Hp} {f : Str} {d : D} {v : V} (rd : rep S io F d v) : ∀ {fs : List (Str × V)} {ns : List Str} {l : List D}, fs.map (·.1) = ns → reps S io F l (fs.map (·.2)) →
    (putF f v fs).map (·.1) = (putD f d ns l).1 ∧ reps S io F (putD f d ns l).2 ((putF f v fs).map (·.2))
  | [], ns, l, e, r => by
    subst e
    cases l with
    | nil => exact ⟨rfl, .cons rd .nil⟩
    | cons y l => obtain ⟨_, _, z, _⟩ := r.uncons; cases z
  | (n, u) :: fs, ns, l, e, r => by
    subst e
    cases l with
    | nil => cases r.eq_nil
    | cons y l =>
      obtain ⟨z, q, e1, r1, r2⟩ := r.uncons
      cases e1
      show (if n = f then (n, v) :: fs else (n, u) :: putF f v fs).map (·.1) = (if n = f then (n :: fs.map (·.1), d :: l) else ((n :: (putD f d (fs.map (·.1)) l).1), (y :: (putD f d (fs.map (·.1)) l).2))).1 ∧
        reps S io F (if n = f then (n :: fs.map (·.1), d :: l) else ((n :: (putD f d (fs.map (·.1)) l).1), (y :: (putD f d (fs.map (·.1)) l).2))).2 ((if n = f then (n, v) :: fs else (n, u) :: putF f v fs).map (·.2))
      by_cases h : n = f
      · rw [if_pos h, if_pos h]
        exact ⟨rfl, .cons rd r2⟩
      · rw [if_neg h, if_neg h]
        obtain ⟨k1, k2⟩ := putD_reps rd (f := f) (fs := fs) rfl r2
        exact ⟨by show n :: (putF f v fs).map (·.1) = _; rw [k1], .cons r1 k2⟩
def sFldSet (f : Str) (da de : DE) : DS := fun env μ => (de env μ).bindS env fun y μ1 => (da env μ1).bindS env fun x μ2 => match x with
  | .cel i => match μ2[i]? with
    | some (.obj c ns l) => if ns.length < 1000 then .nx env (μ2.set i (.obj c (putD f y ns l).1 (putD f y ns l).2)) else .stuck
    | _ => .stuck
  | _ => .stuck
theorem pds_fld {f : Str} {pos' : Pos} (hK : X.K = S.K) (hc : ClsOk S f) (ha : PDE X S W o da) (he : PDE X S W e d) (hs : swapsWith e (some (.Attribute o f pos')) pos.line X.env = pure false := by rfl) : PDS X S W (.Assign [.Attribute o f pos'] e pos) (sFldSet f da d) := by
  obtain ⟨ta, pa, ka⟩ := ha.ex
  obtain ⟨te, pe, ke⟩ := he.ex
  refine ⟨_, ps_fld pa pe hs, fun env σ c μ E I en q => ?_⟩
  refine (show te σ c.H fun y H1 => ta σ H1 fun x H2 => ∃ a C dx fs, x = .ref a ∧ H2 a = some (.ins C dx fs) ∧ Cls X.K C ∧ NoAttr X.K C f ∧ fs.length < 1000 ∧ E.nx σ (upd H2 a (.ins C dx (putF f y fs))) from ?_)
  refine bindES en (fun Q' => ke env σ c μ Q' I en) q fun y μ1 u c1 s1 I1 r1 q1 => ?_
  refine bindES (en.step s1) (fun Q' => ka env σ c1 μ1 Q' I1 (en.step s1)) q1 fun x μ2 v c2 s2 I2 r2 q2 => ?_
  cases x with
  | cel i =>
    try dsimp only at q2
    cases e1 : μ2[i]? with
    | none => rw [e1] at q2; exact False.elim q2
    | some m =>
      rw [e1] at q2
      cases m with
      | obj cl ns l =>
        dsimp only at q2
        by_cases hl : ns.length < 1000
        · rw [if_pos hl] at q2
          unfold rep at r2
          obtain ⟨a, rfl, h2⟩ := r2
          obtain ⟨k1, dx, fs, k2, k3, k4⟩ := I2.cell i a _ h2 e1
          have hm := I2.cls i _ _ _ e1
          obtain ⟨z1, z2⟩ := putD_reps (f := f) (s2.rep r1) k3 k4
          obtain ⟨I3, s3⟩ := I2.write (o := .ins (S.A cl) dx (putF f u fs)) (m := .obj cl (putD f y ns l).1 (putD f y ns l).2) h2 k1 ⟨k1, dx, putF f u fs, upd_same, z1, z2⟩ (fun x2 ns2 l2 e2 => by cases e2; exact hm)
          refine ⟨a, S.A cl, dx, fs, rfl, k2, by rw [hK]; exact (hc cl hm).1, by rw [hK]; exact (hc cl hm).2, ?_, q2 σ _ s3 I3 (((en.step s1).step s2).step s3)⟩
          rw [← k3, List.length_map] at hl
          exact hl
        · rw [if_neg hl] at q2; exact False.elim q2
      | _ => exact False.elim q2
  | _ => exact False.elim q2
/-! ### C(..), frozen behind its making -/
/-- a new instance, its __init__ with the bound values -/
theorem make_go {CX : CXT} {C : Addr} {sp : Sp} {E : XK} {pins : List (Addr × Obj)} {σ : St} {H : Hp} {s : Shared} {Q : VK} {us bs : List Value} {bv : List V} {kw : List (Str × Value)} (M0 : Mk X.K C f) (F : FnOk X.prog X.w X.K X.mg X.base CX k f fd ps sp) (hr : Room (k + 1) X.A)
    (hb : ∀ (s2 : Shared) (self : Value), X.K.In s2.heap → bs.length + 1 = ps.length → BindsTo s2 fd ⟨self :: us, kw⟩ (ps.zip (self :: bs))) (hx : PassesAt CX X σ E) (I : Inv X pins σ H s) (r : Vals bv bs)
    (h : ∀ x dx, H x = none → H dx = none → dx ≠ x → sp (.ref x :: bv) (upd (upd H dx (.own x)) x (.ins C dx [])) (fun v H2 => v = .non ∧ Q (.ref x) H2) E) :
    wpAny (model X.prog X.w) X.A (call (.ref C) us kw) (EP X pins σ Q) X.xe s := by
  have ne : s.heap.objs.size ≠ s.heap.objs.size + 1 := Nat.ne_of_lt (Nat.lt_succ_self _)
  have here := h (s.heap.objs.size + 1) s.heap.objs.size (I.hok.fresh (Nat.le_succ _)) (I.hok.fresh (Nat.le_refl _)) ne
  have J := Inv.made (C := C) I
  have rr : Vals (V.ref (s.heap.objs.size + 1) :: bv) (Value.ref (s.heap.objs.size + 1) :: bs) := .cons rfl r
  have len : bs.length + 1 = ps.length := by
    have z := F.len _ _ _ _ here
    rw [rr.length, List.length_cons] at z
    exact z
  refine wpAny_call (make_map (f := f) I.kIn M0.makes M0.init (beq_iff_eq.mp M0.fn) ?_)
  refine codeAny_mono (F.run _ X.stack _ _ ⟨Value.ref (s.heap.objs.size + 1) :: us, kw⟩ (Value.ref (s.heap.objs.size + 1) :: bs) _ _ E (hr.make C us kw) (J.env0.make C us kw) (hb _ _ J.kIn len) rr here) fun res s' hq => ?_
  match res, hq with
  | .error e, hq => exact hx pins _ _ e s' J hq
  | .ok (.ret u), hq =>
    obtain ⟨v, H', I3, rv, ev, q3⟩ := J.after hq
    subst ev
    exact ⟨rv, ⟨V.ref (s.heap.objs.size + 1), H', I3, rfl, q3⟩⟩
  | .ok .next, hq => exact False.elim hq
  | .ok .brk, hq => exact False.elim hq
  | .ok .cont, hq => exact False.elim hq
def dMake (c : Str) (np : Nat) (G : GF) (dd : List D) (ds : DA) : DE := fun env μ => (ds env μ).bind fun l μ1 => if (l ++ dd).length + 1 = np then match G (.cel μ1.length :: (l ++ dd)) (μ1 ++ [.obj c [] []]) with
    | .ok .non μ2 => match finD μ1.length μ2 (.cel μ1.length) with
      | some (d, μ3) => .ok d μ3
      | none => .stuck
    | .ok _ _ => .stuck
    | .ex x ns l' μ2 => match finL μ1.length μ2 l' with
      | some (l2, μ3) => .ex x ns l2 μ3
      | none => .stuck
    | .stuck => .stuck
  else .stuck
/-- behind the making: the new cell becomes a datum -/
theorem froz_new {c c' : Cf} {μ : List M} {n : Nat} (I : SI S c' μ) (hn : n = c.io.length) (s : Step S c c') : Step S c (froz c' n) ∧ (froz c' n).io = c.io := by
  have e : c'.io.take n = c.io := by
    obtain ⟨z, e⟩ := s.pre
    rw [← e, hn, List.take_left]
  refine ⟨⟨?_, I.nd.sublist (List.take_sublist _ _), s.exF.trans (froz_ex I n), fun p h1 h2 h3 => ?_, s.keep, fun p h1 h2 => ?_, s.som⟩, e⟩
  · show c.io <+: c'.io.take n
    rw [e]; exact List.prefix_refl _
  · have h3 : (if p ∈ c'.io.drop n then c'.H p else c'.F p) ≠ none := h3
    by_cases m : p ∈ c'.io.drop n
    · have ni : p ∉ c.io := fun q => by
        rw [← e] at q
        have hnd := I.nd
        rw [← List.take_append_drop n c'.io] at hnd
        exact (List.nodup_append.mp hnd).2.2 p q p m rfl
      exact absurd (s.new p (List.mem_of_mem_drop m) ni) h1
    · rw [if_neg m] at h3
      exact s.frz p h1 h2 h3
  · have h1 : p ∈ c'.io.take n := h1
    rw [e] at h1
    exact absurd h1 h2
/-- from what is wanted of the making to what is wanted of __init__ -/
theorem make_sp {c : Str} {σ : St} {c1 : Cf} {μ : List M} {Q : VK} {l : List D} {vs : List V} {x dx : Addr} (hc : c ∈ S.cls) (I : SI S c1 μ) (r : reps S c1.io c1.F l vs) (hn : l.length + 1 = np)
    (h1 : c1.H x = none) (h2 : c1.H dx = none) (h3 : dx ≠ x) (q : EQ S W σ c1 Q (match G (.cel μ.length :: l) (μ ++ [.obj c [] []]) with
      | .ok .non μ2 => match finD μ.length μ2 (.cel μ.length) with
        | some (d, μ3) => .ok d μ3
        | none => .stuck
      | .ok _ _ => .stuck
      | .ex x ns l' μ2 => match finL μ.length μ2 l' with
        | some (l2, μ3) => .ex x ns l2 μ3
        | none => .stuck
      | .stuck => .stuck)) :
    spD (at0 S 0) np G (.ref x :: vs) (upd (upd c1.H dx (.own x)) x (.ins (S.A c) dx [])) (fun v H2 => v = .non ∧ Q (.ref x) H2) (WE W σ) := by
  -- the dict of the instance
  have nio : ∀ p, c1.H p = none → p ∉ c1.io := fun p hp m => by
    obtain ⟨o, z⟩ := I.there m
    rw [hp] at z; cases z
  have I1 : SI S ⟨c1.io, c1.F, upd c1.H dx (.own x)⟩ μ := I.ghost (nio dx h2) (I.ex.back h2)
  have s1 : Step S c1 ⟨c1.io, c1.F, upd c1.H dx (.own x)⟩ := I.step.ghost h2
  have hx : (⟨c1.io, c1.F, upd c1.H dx (.own x)⟩ : Cf).H x = none := (upd_ne (Ne.symm h3)).trans h1
  obtain ⟨I2, s2⟩ := I1.alloc (p := x) (o := .ins (S.A c) dx []) (m := .obj c [] []) hx (fun io pre => ⟨I1.ex.back hx, dx, [], upd_same, rfl, .nil⟩) (fun x2 ns l2 e => by cases e; exact hc)
  have s12 := s1.trans s2
  have ln : μ.length = c1.io.length := I.len.symm
  have rc : rep S (c1.io ++ [x]) c1.F (.cel μ.length) (.ref x) := by
    unfold rep
    refine ⟨x, rfl, ?_⟩
    rw [ln, List.getElem?_append_right (Nat.le_refl _), Nat.sub_self]; rfl
  refine ⟨.cel μ.length :: l, _, _, _, ?_, SI_at.mpr I2, (reps_at _).mpr (.cons rc (s12.reps r)), ?_⟩
  · show vs.length + 1 = np
    rw [← r.len]; exact hn
  · cases eG : G (.cel μ.length :: l) (μ ++ [.obj c [] []]) with
    | stuck => rw [eG] at q; exact False.elim q
    | ok d μ2 =>
      rw [eG] at q
      intro v c3 s3 ei I3 r3
      have I3 := SI_at.mp I3
      have s3 : Step S _ c3 := Step.up (S := S) s3
      cases d with
      | non =>
        refine ⟨rep_non.mp r3, ?_⟩
        dsimp only at q
        cases ef : finD μ.length μ2 (.cel μ.length) with
        | none => rw [ef] at q; exact False.elim q
        | some pr =>
          obtain ⟨d', μ3⟩ := pr
          rw [ef] at q
          unfold finD at ef
          cases e1 : sub μ.length (rsv μ.length μ2 20) (.cel μ.length) with
          | none => rw [e1] at ef; cases ef
          | some d1 =>
            rw [e1] at ef
            cases e2 : subMs μ.length (rsv μ.length μ2 20) (μ2.take μ.length) with
            | none => rw [e2] at ef; cases ef
            | some μ1 =>
              rw [e2] at ef; cases ef
              obtain ⟨s4, ei4⟩ := froz_new I3 ln (s12.trans s3)
              have rc3 : rep S c3.io c3.F (.cel μ.length) (.ref x) := s3.rep rc
              exact q _ (froz c3 μ.length) s4 (froz_SI I3 (rsv_rep I3 20) e2) (sub_rep I3 (rsv_rep I3 20) _ e1 rc3)
      | _ => exact False.elim q
    | ex y ns l' μ2 =>
      rw [eG] at q
      dsimp only at q
      intro dd c3 s3 ei I3 r3
      have I3 := SI_at.mp I3
      have s3 : Step S _ c3 := Step.up (S := S) s3
      cases ef : finL μ.length μ2 l' with
      | none => rw [ef] at q; exact False.elim q
      | some pr =>
        obtain ⟨l2, μ3⟩ := pr
        rw [ef] at q
        unfold finL at ef
        cases e1 : subs μ.length (rsv μ.length μ2 20) l' with
        | none => rw [e1] at ef; cases ef
        | some d1 =>
          rw [e1] at ef
          cases e2 : subMs μ.length (rsv μ.length μ2 20) (μ2.take μ.length) with
          | none => rw [e2] at ef; cases ef
          | some μ1 =>
            rw [e2] at ef; cases ef
            obtain ⟨s4, ei4⟩ := froz_new I3 ln (s12.trans s3)
            refine q dd (froz c3 μ.length) s4 (froz_SI I3 (rsv_rep I3 20) e2) ?_
            rcases xrep_at.mp r3 with ⟨h5, h6, h7⟩ | ⟨a, fs, h5, h6, h7, h8⟩
            · subst h6
              cases (show some [] = some l2 from e1)
              exact Or.inl ⟨h5, rfl, h7⟩
            · exact Or.inr ⟨a, fs, h5, froz_ex I3 _ _ _ h6, h7, subs_rep I3 (rsv_rep I3 20) l' e1 h8⟩
/-- what is known of a class that is made by a call -/
structure MkF (S : Sx) (c : Str) (f : Addr) : Prop where
  mke : Mk S.K (S.A c) f
  mem : c ∈ S.cls
theorem pd_make {c : Str} (hK : X.K = S.K) (hM : MkF S c f) (F : FnOk X.prog X.w X.K X.mg X.base (L2M.CX md X.prog X.w) k f fd ps (spD (at0 S 0) np G)) (hr : Room (k + 1) X.A) (tk : L2M.Takes md X W) (hg : Gl X c) (hm : X.mg c = some (.ref (S.A c))) (hb : DflD S X.K fd ps dd)
    (ha : PDA X S W (e :: es) ds) (hdb : (c == ("__debug__" : Str)) = false := by decide) (he : starEach (e :: es) X.env = (false, eval e X.env) :: starEach es X.env := by rfl) (hpl : (backTo pos (starEach es X.env)).any (·.1) = false := by rfl) :
    PDE X S W (.Call (.Name c p) (e :: es) [] pos) (dMake c np G dd ds) := by
  obtain ⟨t, pa, ka⟩ := ha.ex
  obtain ⟨dvs, dV, h1, h2, h3⟩ := hb.ex
  refine ⟨fun σ H Q => t σ H fun vs H1 => ∀ x dx, H1 x = none → H1 dx = none → dx ≠ x → spD (at0 S 0) np G (.ref x :: (vs ++ dvs)) (upd (upd H1 dx (.own x)) x (.ins (S.A c) dx [])) (fun v H2 => v = .non ∧ Q (.ref x) H2) (WE W σ), ⟨fun pins s σ H Q I h => ?_⟩, fun env σ c1 μ Q I en q => ?_⟩
  · refine wpAny_Call_Name_kw (ld_glob I hg hm ?_ hdb)
    have kc : PySem.W.keepIn X.K (.ref (S.A c)) = true := by rw [hK]; exact hM.mke.kp
    have M1 : Mk X.K (S.A c) f := by rw [hK]; exact hM.mke
    refine PySem.W.callWith_K (h₀ := X.base) I.ok.mod.kin kc (thn (pa.run pos pins s σ H _ I h) fun us s1 ⟨vs, H1, I1, r, q⟩ => ⟨I1.kIn, ?_⟩) he hpl
    refine make_go (bs := us ++ dV) M1 F hr (fun s2 self k2 l2 => ?_) (L2M.passAt tk σ) I1 (r.append h2) q
    have z := h1 s2 (self :: us) k2 (by rw [List.cons_append, List.length_cons]; exact l2)
    rw [List.cons_append] at z
    exact z
  · refine bindAE (fun Q' => ka env σ c1 μ Q' I en) q fun l μ1 vs c2 s1 I1 r1 q1 => fun x dx hx hdx hne => ?_
    by_cases hn : (l ++ dd).length + 1 = np
    · rw [if_pos hn] at q1
      exact make_sp hM.mem I1 (r1.append (h3 _ _)) hn hx hdx hne q1
    · rw [if_neg hn] at q1; exact False.elim q1
end
end DL
namespace DL
open PySem PySem.Spec PyProof.Rows L2
section
variable {X : Cx} {S : Sx} {W : WX} {a b e o : Expr} {es : List Expr} {da db d : DE} {ds : DA} {pos p apos : Pos} {k : Nat} {x m c : Str} {f : Addr} {fd : FuncData} {ps : List Str} {np : Nat} {G : GF} {dd : List D}
/-! ### a promise, at the caller's own number of cells -/
theorem sp_at {σ : St} {c1 : Cf} {μ : List M} {Q : VK} {l : List D} {vs : List V} (I : SI S c1 μ) (r : reps S c1.io c1.F l vs) (hn : l.length = np) (q : EQ S W σ c1 Q (G l μ)) : spD (at0 S 0) np G vs c1.H Q (WE W σ) := by
  obtain ⟨ds', io, μ', F', k1, k2, k3, k4⟩ := call_sp I r hn q
  refine ⟨ds', io, μ', F', k1, SI_at.mpr k2, (reps_at _).mpr k3, ?_⟩
  cases eo : G ds' μ' with
  | ok d μ2 => rw [eo] at k4; exact fun v c' s ei I' r' => k4 v c' s ei (SI_at.mp I') ((rep_at _).mp r')
  | ex y ns l' μ2 => rw [eo] at k4; exact fun dd c' s ei I' r' => k4 dd c' s ei (SI_at.mp I') (xrep_at.mp r')
  | stuck => rw [eo] at k4; exact k4
/-! ### o.m(..) -/
theorem fld_none {f : Str} : ∀ {fs : List (Str × V)} {ns : List Str} {l : List D}, fs.map (·.1) = ns → l.length = ns.length → fldOf f ns l = none → fs.lookup f = none
  | [], _, _, _, _, _ => rfl
  | (n, v) :: fs, ns, l, e, hl, h => by
    subst e
    cases l with
    | nil => cases hl
    | cons d l =>
      have h' : (if f = n then some d else fldOf f (fs.map (·.1)) l) = none := h
      by_cases hf : f = n
      · rw [if_pos hf] at h'; cases h'
      · rw [if_neg hf] at h'
        have hb : (f == n) = false := by simpa using hf
        rw [List.lookup_cons, hb]
        exact fld_none rfl (Nat.succ.inj hl) h'
def dMeth (c m : Str) (np : Nat) (G : GF) (dd : List D) (da : DE) (ds : DA) : DE := fun env μ => (da env μ).bind fun x μ1 => if clsAt μ1 x = some c ∧ (fldAt μ1 m x).isNone = true then (ds env μ1).bind fun l μ2 => if (x :: (l ++ dd)).length = np then G (x :: (l ++ dd)) μ2 else .stuck
  else .stuck
/-- what is known of a method -/
structure MtF (S : Sx) (c m : Str) (f : Addr) : Prop where
  cls : Cls S.K (S.A c)
  meth : Meth S.K (S.A c) m f
theorem meth_recv {c1 : Cf} {μ : List M} {d : D} {v : V} (I : SI S c1 μ) (r : rep S c1.io c1.F d v) (h : clsAt μ d = some c) (hn : (fldAt μ m d).isNone = true) : ∃ a dx fs, v = .ref a ∧ c1.H a = some (.ins (S.A c) dx fs) ∧ fs.lookup m = none := by
  obtain ⟨a, dx, fs, ns, l, h1, h2, h3, h4, h5, _⟩ := obj_at I r h
  refine ⟨a, dx, fs, h1, h2, fld_none h3 ?_ (by rw [← h5]; simpa using hn)⟩
  rw [h4.len, ← h3, List.length_map, List.length_map]
theorem pd_meth {pl : Sem Bool} (hK : X.K = S.K) (hM : MtF S c m f) (F : FnOk X.prog X.w X.K X.mg X.base (L2M.CX md X.prog X.w) k f fd ps (spD (at0 S 0) np G)) (hr : Room k X.A) (tk : L2M.Takes md X W) (hb : DflD S X.K fd (ps) dd) (hap : PDE X S W o da) (ha : PDA X S W (e :: es) ds)
    (hst : starEach (e :: es) X.env = (false, eval e X.env) :: starEach es X.env := by rfl) (hpl : (backTo pos (starEach es X.env)).any (·.1) = false := by rfl)
    (ht : eval (.Call (.Attribute o m apos) (e :: es) [] pos) X.env = (do
      let ov ← eval o X.env
      standAt apos.atName
      let (f, first) ← holding [ov] (getMethod ov m pl)
      callWith pos f first (backTo pos (starEach (e :: es) X.env)) (backToKw pos (keywordEach [] X.env))) := by rfl) :
    PDE X S W (.Call (.Attribute o m apos) (e :: es) [] pos) (dMeth c m np G dd da ds) := by
  obtain ⟨t, pa, ka⟩ := ha.ex
  obtain ⟨to, po, ko⟩ := hap.ex
  obtain ⟨dvs, dV, h1, h2, h3⟩ := hb.ex
  refine ⟨fun σ H Q => to σ H fun x H1 => ∃ a dx fs, x = .ref a ∧ H1 a = some (.ins (S.A c) dx fs) ∧ fs.lookup m = none ∧ t σ H1 fun vs H2 => spD (at0 S 0) np G (x :: (vs ++ dvs)) H2 Q (WE W σ), ⟨fun pins s σ H Q I h => ?_⟩, fun env σ c1 μ Q I en q => ?_⟩
  · refine PySem.W.methodCall_KW (pl := pl) (thn (po.run pins s σ H _ I h) fun u s1 ⟨x, H1, I1, rx, a, dx, fs, ex, ea, l, q⟩ => ?_) ht
    subst ex
    obtain rfl : u = Value.ref a := rx
    have M1 : Meth X.K (S.A c) m f := by rw [hK]; exact hM.meth
    have C1 : Cls X.K (S.A c) := by rw [hK]; exact hM.cls
    refine getmeth_ok I1 ea C1 M1 l ?_
    refine PySem.W.callWith_K (first := [.ref a]) (h₀ := X.base) I.ok.mod.kin M1.kp (thn (pa.run pos pins s1 σ H1 _ I1 q) fun us s2 ⟨vs, H2, I2, r, q2⟩ => ⟨I2.kIn, ?_⟩) hst hpl
    exact run_fnSD (E := WE W) (us := .ref a :: us) (vs := .ref a :: vs) F hr h1 h2 (L2M.passAt tk σ) I2 (.cons rfl r) q2
  · refine bindE (fun Q' => ko env σ c1 μ Q' I en) q fun x μ1 v c2 s1 I1 r1 q1 => ?_
    by_cases hc : clsAt μ1 x = some c ∧ (fldAt μ1 m x).isNone = true
    · rw [if_pos hc] at q1
      obtain ⟨a, dx, fs, rfl, z1, z2⟩ := meth_recv I1 r1 hc.1 hc.2
      refine ⟨a, dx, fs, rfl, z1, z2, ?_⟩
      refine bindAE (fun Q' => ka env σ c2 μ1 Q' I1 (en.step s1)) q1 fun l μ2 vs c3 s2 I2 r2 q2 => ?_
      by_cases hn : (x :: (l ++ dd)).length = np
      · rw [if_pos hn] at q2
        exact sp_at (l := x :: (l ++ dd)) (vs := .ref a :: (vs ++ dvs)) I2 (.cons (s2.rep r1) (r2.append (h3 _ _))) hn q2
      · rw [if_neg hn] at q2; exact False.elim q2
    · rw [if_neg hc] at q1; exact False.elim q1
theorem pd_meth0 {pl : Sem Bool} (hK : X.K = S.K) (hM : MtF S c m f) (F : FnOk X.prog X.w X.K X.mg X.base (L2M.CX md X.prog X.w) k f fd ps (spD (at0 S 0) np G)) (hr : Room k X.A) (tk : L2M.Takes md X W) (hb : DflD S X.K fd (ps) dd) (hap : PDE X S W o da)
    (ht : eval (.Call (.Attribute o m apos) [] [] pos) X.env = (do
      let ov ← eval o X.env
      standAt apos.atName
      let (f, first) ← holding [ov] (getMethod ov m pl)
      callWith pos f first (backTo pos (starEach [] X.env)) (backToKw pos (keywordEach [] X.env))) := by rfl) :
    PDE X S W (.Call (.Attribute o m apos) [] [] pos) (dMeth c m np G dd da aNil) := by
  obtain ⟨to, po, ko⟩ := hap.ex
  obtain ⟨dvs, dV, h1, h2, h3⟩ := hb.ex
  refine ⟨fun σ H Q => to σ H fun x H1 => ∃ a dx fs, x = .ref a ∧ H1 a = some (.ins (S.A c) dx fs) ∧ fs.lookup m = none ∧ spD (at0 S 0) np G (x :: dvs) H1 Q (WE W σ), ⟨fun pins s σ H Q I h => ?_⟩, fun env σ c1 μ Q I en q => ?_⟩
  · refine PySem.W.methodCall_KW (pl := pl) (thn (po.run pins s σ H _ I h) fun u s1 ⟨x, H1, I1, rx, a, dx, fs, ex, ea, l, q⟩ => ?_) ht
    subst ex
    obtain rfl : u = Value.ref a := rx
    have M1 : Meth X.K (S.A c) m f := by rw [hK]; exact hM.meth
    have C1 : Cls X.K (S.A c) := by rw [hK]; exact hM.cls
    refine getmeth_ok I1 ea C1 M1 l ?_
    exact PySem.W.callWith_K0 (first := [.ref a]) I1.kIn M1.kp (run_fnSD (E := WE W) (us := [.ref a]) (vs := [.ref a]) F hr h1 h2 (L2M.passAt tk σ) I1 (.cons rfl .nil) q)
  · refine bindE (fun Q' => ko env σ c1 μ Q' I en) q fun x μ1 v c2 s1 I1 r1 q1 => ?_
    by_cases hc : clsAt μ1 x = some c ∧ (fldAt μ1 m x).isNone = true
    · rw [if_pos hc] at q1
      obtain ⟨a, dx, fs, rfl, z1, z2⟩ := meth_recv I1 r1 hc.1 hc.2
      refine ⟨a, dx, fs, rfl, z1, z2, ?_⟩
      have q1 : EQ S W σ c2 Q (if (x :: ([] ++ dd)).length = np then G (x :: ([] ++ dd)) μ1 else .stuck) := q1
      by_cases hn : (x :: ([] ++ dd)).length = np
      · rw [if_pos hn] at q1
        exact sp_at (l := x :: ([] ++ dd)) (vs := .ref a :: dvs) I1 (.cons r1 (h3 _ _)) hn q1
      · rw [if_neg hn] at q1; exact False.elim q1
    · rw [if_neg hc] at q1; exact False.elim q1
/-! ### f(), C() -/
theorem pd_make0 (hK : X.K = S.K) (hM : MkF S c f) (F : FnOk X.prog X.w X.K X.mg X.base (L2M.CX md X.prog X.w) k f fd ps (spD (at0 S 0) np G)) (hr : Room (k + 1) X.A) (tk : L2M.Takes md X W) (hg : Gl X c) (hm : X.mg c = some (.ref (S.A c))) (hb : DflD S X.K fd ps dd)
    (hdb : (c == ("__debug__" : Str)) = false := by decide) : PDE X S W (.Call (.Name c p) [] [] pos) (dMake c np G dd aNil) := by
  obtain ⟨dvs, dV, h1, h2, h3⟩ := hb.ex
  refine ⟨fun σ H1 Q => ∀ x dx, H1 x = none → H1 dx = none → dx ≠ x → spD (at0 S 0) np G (.ref x :: dvs) (upd (upd H1 dx (.own x)) x (.ins (S.A c) dx [])) (fun v H2 => v = .non ∧ Q (.ref x) H2) (WE W σ), ⟨fun pins s σ H Q I h => ?_⟩, fun env σ c1 μ Q I en q => ?_⟩
  · refine wpAny_Call_Name_kw (ld_glob I hg hm ?_ hdb)
    have kc : PySem.W.keepIn X.K (.ref (S.A c)) = true := by rw [hK]; exact hM.mke.kp
    have M1 : Mk X.K (S.A c) f := by rw [hK]; exact hM.mke
    refine PySem.W.callWith_K0 I.kIn kc (make_go (us := []) (bs := dV) M1 F hr (fun s2 self k2 l2 => ?_) (L2M.passAt tk σ) I h2 h)
    have z := h1 s2 [self] k2 (by rw [List.cons_append, List.length_cons]; exact l2)
    rw [List.cons_append] at z
    exact z
  · intro x dx hx hdx hne
    have q : EQ S W σ c1 Q (if ([] ++ dd).length + 1 = np then _ else .stuck) := q
    by_cases hn : ([] ++ dd).length + 1 = np
    · rw [if_pos hn] at q
      exact make_sp hM.mem I (h3 _ _) hn hx hdx hne q
    · rw [if_neg hn] at q; exact False.elim q
/-! ### raise X('..') -/
structure ExF (S : Sx) (x : Str) : Prop where
  exc : PySem.W.excIn S.K (S.A x) He.veBase "ValueError.__new__" = true
  kp : PySem.W.keepIn S.K (.ref (S.A x)) = true
  sb : PySem.W.subIn S.K (.ref (S.A x)) (.type "BaseException") = some true
  ty : PySem.W.typeIn S.K (.ref (S.A x)) = some (.type "type")
def sRaise (x : Str) : DS := fun env μ => .ex x [] [] env μ
theorem pds_raise {z : Str} {j : Nat} {p2 pos2 : Pos} (hK : X.K = S.K) (hx : ExF S x) (hc : X.calm = true) (tk : L2M.Takes md X W) (hg : Gl X x) (hm : X.mg x = some (.ref (S.A x))) (hdb : (x == ("__debug__" : Str)) = false := by decide) :
    PDS X S W (.Raise (some (.Call (.Name x p) [.Constant (.str z) j p2] [] pos)) none pos2) (sRaise x) := by
  refine ⟨_, L2N.ps_raise hc tk.n (L2N.pmk_own PySem.F.excBase_ValueError (by rw [hK]; exact hx.exc) hm (by rw [hK]; exact hx.kp) (raises_own (by rw [hK]; exact hx.sb) (by rw [hK]; exact hx.ty)) hg hdb), fun env σ c μ E I en q => ?_⟩
  exact q none σ c I.step I en (Or.inl ⟨rfl, rfl, rfl⟩)
end
end DL
namespace DL
open PySem PySem.Spec PyProof.Rows L2
/-! ### a new list handed back, to be changed by the caller -/
section
variable {S : Sx} {io : List Addr} {F : Hp} {n : Nat}
mutual
theorem rep_clean : ∀ (d : D) {v : V}, clean n d = true → rep S io F d v → rep S (io.take n) F d v
  | .cel i, v, h, r => by
    unfold clean at h
    unfold rep at r ⊢
    obtain ⟨a, h1, h2⟩ := r
    exact ⟨a, h1, by rw [List.getElem?_take_of_lt (of_decide_eq_true h)]; exact h2⟩
  | .tup l, v, h, r => by
    unfold clean at h
    unfold rep at r ⊢
    obtain ⟨a, xs, h1, h2, h3⟩ := r
    exact ⟨a, xs, h1, h2, reps_clean l h h3⟩
  | .lst l, v, h, r => by
    unfold clean at h
    unfold rep at r ⊢
    obtain ⟨a, xs, h1, h2, h3⟩ := r
    exact ⟨a, xs, h1, h2, reps_clean l h h3⟩
  | .dct ks l, v, h, r => by
    unfold clean at h
    unfold rep at r ⊢
    obtain ⟨a, xs, h1, h2, h3, h4⟩ := r
    exact ⟨a, xs, h1, h2, h3, reps_clean l h h4⟩
  | .obj c ns l, v, h, r => by
    unfold clean at h
    unfold rep at r ⊢
    obtain ⟨a, dx, xs, h1, h2, h3, h4, h5⟩ := r
    exact ⟨a, dx, xs, h1, h2, h3, reps_clean l h h4, h5⟩
  | .exc c ns l, v, h, r => by unfold clean at h; cases h
  | .non, v, _, r => by unfold rep at r ⊢; exact r
  | .txt, v, _, r => by unfold rep at r ⊢; exact r
  | .bl _, v, _, r => by unfold rep at r ⊢; exact r
  | .int _, v, _, r => by unfold rep at r ⊢; exact r
  | .str _, v, _, r => by unfold rep at r ⊢; exact r
  | .ty _, v, _, r => by unfold rep at r ⊢; exact r
  | .glo _, v, _, r => by unfold rep at r ⊢; exact r
  | .scr _, v, _, r => by unfold rep at r ⊢; exact r
theorem reps_clean : ∀ (l : List D) {vs : List V}, cleans n l = true → reps S io F l vs → reps S (io.take n) F l vs
  | [], vs, _, r => by rw [r.eq_nil]; exact .nil
  | d :: l, vs, h, r => by
    obtain ⟨x, q, rfl, r1, r2⟩ := r.uncons
    unfold cleans at h
    have h' := Bool.and_eq_true_iff.mp h
    exact .cons (rep_clean d h'.1 r1) (reps_clean l h'.2 r2)
end
end
theorem SI.cut {S : Sx} {c : Cf} {μ : List M} {n : Nat} (I : SI S c μ) (h : (μ.take n).all (cleanM n) = true) : SI S ⟨c.io.take n, c.F, c.H⟩ (μ.take n) := by
  refine ⟨I.ex, by rw [List.length_take, List.length_take, I.len], I.nd.sublist (List.take_sublist _ _), fun i a m h1 h2 => ?_, fun i x ns l e => ?_⟩
  · have h1 : (c.io.take n)[i]? = some a := h1
    have hi : i < n := by
      have := (List.getElem?_eq_some_iff.mp h1).1
      rw [List.length_take] at this; omega
    rw [List.getElem?_take_of_lt hi] at h1
    have hm := List.all_eq_true.mp h m (List.mem_of_getElem? h2)
    rw [List.getElem?_take_of_lt hi] at h2
    have k := I.cell i a m h1 h2
    cases m with
    | lst l =>
      obtain ⟨k1, xs, k2, k3⟩ := k
      exact ⟨k1, xs, k2, reps_clean l hm k3⟩
    | dct ks l =>
      obtain ⟨k1, xs, k2, k3, k4⟩ := k
      exact ⟨k1, xs, k2, k3, reps_clean l hm k4⟩
    | obj x ns l =>
      obtain ⟨k1, dx, fs, k2, k3, k4⟩ := k
      exact ⟨k1, dx, fs, k2, k3, reps_clean l hm k4⟩
    | dead => exact k
  · have hi : i < n := by
      have := (List.getElem?_eq_some_iff.mp e).1
      rw [List.length_take] at this; omega
    rw [List.getElem?_take_of_lt hi] at e
    exact I.cls i x ns l e
theorem cut_step {S : Sx} {c c' : Cf} {μ : List M} {n : Nat} (I : SI S c' μ) (hn : n = c.io.length) (s : Step (at0 S n) c c') : Step (at0 S n) c ⟨c'.io.take n, c'.F, c'.H⟩ ∧ c'.io.take n = c.io := by
  have e : c'.io.take n = c.io := by
    obtain ⟨z, e⟩ := s.pre
    rw [← e, hn, List.take_left]
  refine ⟨⟨?_, I.nd.sublist (List.take_sublist _ _), s.exF, s.frz, s.keep, fun p h1 h2 => ?_, s.som⟩, e⟩
  · show c.io <+: c'.io.take n
    rw [e]; exact List.prefix_refl _
  · have h1 : p ∈ c'.io.take n := h1
    rw [e] at h1
    exact absurd h1 h2
abbrev GN := List D → List M → Out (List D)
def NQ (S : Sx) (c : Cf) (Q : VK) (E : XK) : Out (List D) → Prop
  | .ok l μ => ∀ p xs c', c.H p = none → Step (at0 S c.io.length) c c' → c'.io = c.io → SI S c' μ → Ghost c' p → c'.H p = some (.lst xs) → reps S c'.io c'.F l xs → Q (.ref p) c'.H
  | .ex x ns l μ => ∀ dd c', Step (at0 S c.io.length) c c' → c'.io = c.io → SI S c' μ → xrep S c' ns l dd → E (.ref (S.A x)) dd c'.H
  | .stuck => False
def spN (S : Sx) (np : Nat) (G : GN) : Sp := fun vs H Q E => ∃ ds io μ F, vs.length = np ∧ SI S ⟨io, F, H⟩ μ ∧ reps S io F ds vs ∧ NQ S ⟨io, F, H⟩ Q E (G ds μ)
def finN (n : Nat) : SO → Out (List D)
  | .rt (.cel i) μ => if n ≤ i ∧ (μ.take n).all (cleanM n) = true then match μ[i]? with
    | some (.lst l) => if cleans n l = true then .ok l (μ.take n) else .stuck
    | _ => .stuck
    else .stuck
  | .ex x ns l _ μ => match finL n μ l with
    | some (l', μ') => .ex x ns l' μ'
    | none => .stuck
  | _ => .stuck
def fnN (nN np : Nat) (body : DS) : GN := fun ds μ => if ds.length = np then finN μ.length (body (start nN ds) μ) else .stuck
theorem bodyN_of {S : Sx} {c : Cf} {Q : VK} {E : XK} {n : Nat} (hn : n = c.io.length) : ∀ {o : SO}, NQ S c Q E (finN n o) → SQ (at0 S n) (fun cls d _ H => E cls d H) c { nx := fun _ H' => Q .non H', rt := Q } o
  | .rt (.cel i) μ, h => fun v c' s I r => by
    dsimp only [finN] at h
    have I0 := SI_at.mp I
    by_cases hc : n ≤ i ∧ (μ.take n).all (cleanM n) = true
    · rw [if_pos hc] at h
      cases e : μ[i]? with
      | none => rw [e] at h; exact False.elim h
      | some m =>
        rw [e] at h
        cases m with
        | lst l =>
          dsimp only at h
          by_cases hl : cleans n l = true
          · rw [if_pos hl] at h
            have r0 := (rep_at (S := S) (n := n) _).mp r
            unfold rep at r0
            obtain ⟨a, rfl, h2⟩ := r0
            obtain ⟨k1, xs, k2, k3⟩ := I0.cell i a _ h2 e
            obtain ⟨s2, ei⟩ := cut_step I0 hn s
            have ni : a ∉ c'.io.take n := fun m => by
              obtain ⟨j, hj, ej⟩ := List.getElem_of_mem m
              rw [List.length_take] at hj
              rw [List.getElem_take] at ej
              have hj2 : j < c'.io.length := by omega
              have e2 : c'.io[j]? = some a := by rw [List.getElem?_eq_getElem hj2, ej]
              have := nodup_at I0.nd e2 h2
              omega
            have fresh : c.H a = none := s.new a (List.mem_of_getElem? h2) (by rw [← ei]; exact ni)
            subst hn
            exact h a xs ⟨c'.io.take c.io.length, c'.F, c'.H⟩ fresh s2 ei (I0.cut hc.2) ⟨ni, k1, by show c'.H a ≠ none; rw [k2]; exact fun z => nomatch z⟩ k2 (reps_clean l hl k3)
          · rw [if_neg hl] at h; exact False.elim h
        | _ => exact False.elim h
    · rw [if_neg hc] at h; exact False.elim h
  | .ex x ns l en μ, h => fun dd σ' c' s I en' r => by
    dsimp only [finN] at h
    have I0 := SI_at.mp I
    cases e : finL n μ l with
    | none => rw [e] at h; exact False.elim h
    | some p =>
      obtain ⟨l', μ'⟩ := p
      rw [e] at h
      unfold finL at e
      cases e1 : subs n (rsv n μ 20) l with
      | none => rw [e1] at e; cases e
      | some d1 =>
        rw [e1] at e
        cases e2 : subMs n (rsv n μ 20) (μ.take n) with
        | none => rw [e2] at e; cases e
        | some μ1 =>
          rw [e2] at e; cases e
          obtain ⟨s2, ei⟩ := froz_step I0 hn s
          subst hn
          refine h dd (froz c' c.io.length) s2 ei (froz_SI I0 (rsv_rep I0 20) e2) ?_
          rcases xrep_at.mp r with ⟨h5, h6, h7⟩ | ⟨a, fs, h5, h6, h7, h8⟩
          · subst h6
            cases (show some [] = some l' from e1)
            exact Or.inl ⟨h5, rfl, h7⟩
          · exact Or.inr ⟨a, fs, h5, froz_ex I0 _ _ _ h6, h7, subs_rep I0 (rsv_rep I0 20) l e1 h8⟩
  | .rt .non _, h => False.elim h
  | .rt .txt _, h => False.elim h
  | .rt (.bl _) _, h => False.elim h
  | .rt (.int _) _, h => False.elim h
  | .rt (.str _) _, h => False.elim h
  | .rt (.ty _) _, h => False.elim h
  | .rt (.glo _) _, h => False.elim h
  | .rt (.tup _) _, h => False.elim h
  | .rt (.lst _) _, h => False.elim h
  | .rt (.dct _ _) _, h => False.elim h
  | .rt (.obj _ _ _) _, h => False.elim h
  | .rt (.scr _) _, h => False.elim h
  | .rt (.exc _ _ _) _, h => False.elim h
  | .nx _ _, h => False.elim h
  | .bk _ _, h => False.elim h
  | .ct _ _, h => False.elim h
  | .stuck, h => False.elim h
section
variable {P : Program} {w : World} {K : PySem.W.Frag} {mg : Str → Option Value} {base : Heap} {x qual : Str} {params : Arguments} {body : List Stmt} {scope : Scope} {dvs : List V} {kws : List (Str × V)} {f : Addr} {fd : FuncData}
theorem fnN_ok {N ps : List Str} {k : Nat} {S : Sx} {D : DS} (F : FunD K x qual params body scope dvs kws f fd) (Sc : FnScope N ps scope)
    (hb : ∀ (n : Nat) (cdv : Value) (A : Around) (outer : List Env) (s : Shared) (H : Hp) (E : XK), Room k (A.deeper (envOfC qual scope s.heap.objs.size f cdv)) →
      PDSs (cxOf (L2M.CX md P w) P w K mg base N qual scope f cdv A outer s H E) (at0 S n) (fun cls d _ H => E cls d H) body D) :
    FnOk P w K mg base (L2M.CX md P w) (k + 1) f fd ps (spN S ps.length (fnN N.length ps.length D)) := by
  refine F.ok Sc (fun vs H Q E h => ?_) (fun cdv A outer s H vs Q E hr h => ?_)
  · obtain ⟨_, _, _, _, h, _⟩ := h
    exact h
  · obtain ⟨ds, io, μ, F0, hl, I, r, q⟩ := h
    obtain ⟨t, p, kk⟩ := (hb io.length cdv A outer s H E hr).ex
    refine ⟨t, p, kk (start N.length ds) (L2.start N vs) ⟨io, F0, H⟩ μ _ (SI_at.mpr I) (start_ok ((reps_at ds).mpr r)) ?_⟩
    have e : ds.length = ps.length := r.len.trans hl
    have q : NQ S ⟨io, F0, H⟩ Q E (if ds.length = ps.length then finN μ.length (D (start N.length ds) μ) else .stuck) := q
    rw [if_pos e, show μ.length = io.length from I.len.symm] at q
    exact bodyN_of rfl q
end
section
variable {X : Cx} {S : Sx} {W : WX} {a b e o : Expr} {es : List Expr} {da db d : DE} {ds : DA} {pos p apos : Pos} {k : Nat} {x m c : Str} {f : Addr} {fd : FuncData} {ps : List Str} {np : Nat} {G : GF} {GL : GN} {dd : List D}
/-- return [..], as a cell -/
def sRetC (ds : DA) : DS := fun env μ => (ds env μ).bindS env fun l μ1 => if l.length ≤ 100000 then .rt (.cel μ1.length) (μ1 ++ [.lst l]) else .stuck
theorem pds_retC {lpos : Pos} (ha : PDA X S W es ds) : PDS X S W (.Return (some (.List es lpos)) pos) (sRetC ds) := by
  obtain ⟨t, pa, ka⟩ := ha.ex
  refine ⟨_, ps_ret (pe_lst pa), fun env σ c μ E I en q => ?_⟩
  refine (show t σ c.H fun xs H1 => xs.length ≤ sizeLine ∧ ∀ p, H1 p = none → E.rt (.ref p) (upd H1 p (.lst xs)) from ?_)
  refine bindAS en (fun Q' => ka env σ c μ Q' I en) q fun l μ1 vs c1 s1 I1 r1 q1 => ?_
  by_cases h : l.length ≤ 100000
  · rw [if_pos h] at q1
    refine ⟨by rw [← r1.len]; exact sz_of h, fun p hp => ?_⟩
    obtain ⟨I', s⟩ := I1.alloc (p := p) (o := .lst vs) (m := .lst l) hp fun io pre => ⟨I1.ex.back hp, vs, upd_same, reps.mono pre (Ex.refl _) l r1⟩
    refine q1 _ _ s I' ?_
    unfold rep
    refine ⟨p, rfl, ?_⟩
    show (c1.io ++ [p])[μ1.length]? = some p
    rw [← I1.len, List.getElem?_append_right (Nat.le_refl _), Nat.sub_self]; rfl
  · rw [if_neg h] at q1; exact False.elim q1
/-! ### x = (a new list), as a cell -/
structure PDL (X : Cx) (S : Sx) (W : WX) (e : Expr) (d : DA) : Prop where
  ex : ∃ t, PE X e t ∧ ∀ env σ c μ (Q : VK), SI S c μ → EnvOk S c env σ → (match d env μ with
    | .ok l μ' => ∀ p xs c', c.H p = none → Step S c c' → SI S c' μ' → Ghost c' p → c'.H p = some (.lst xs) → reps S c'.io c'.F l xs → Q (.ref p) c'.H
    | .ex x ns l μ' => XQ S W σ c x ns l μ'
    | .stuck => False) → t σ c.H Q
/-- a ghost becomes a cell -/
theorem SI.adopt {c c1 : Cf} {μ : List M} {p : Addr} {xs : List V} {l : List D} (I : SI S c μ) (g : Ghost c p) (hH : c.H p = some (.lst xs)) (r : reps S c.io c.F l xs) (s : Step S c1 c) (hp : c1.H p = none) :
    SI S ⟨c.io ++ [p], c.F, c.H⟩ (μ ++ [.lst l]) ∧ Step S c1 ⟨c.io ++ [p], c.F, c.H⟩ := by
  have pre : c.io <+: c.io ++ [p] := List.prefix_append _ _
  have nd : (c.io ++ [p]).Nodup := List.nodup_append.mpr ⟨I.nd, by simp, fun a ha b hb => by
    have : b = p := by simpa using hb
    rw [this]; intro z; rw [z] at ha; exact g.io ha⟩
  refine ⟨⟨I.ex, by rw [List.length_append, List.length_append, I.len]; rfl, nd, fun i a m' h1 h2 => ?_, fun i x ns l' h => ?_⟩, ⟨s.pre.trans pre, nd, s.exF, s.frz, s.keep, fun q h1 h2 => ?_, s.som⟩⟩
  · by_cases hi : i < c.io.length
    · have h1' : c.io[i]? = some a := by
        have h1 : (c.io ++ [p])[i]? = some a := h1
        rw [List.getElem?_append_left hi] at h1; exact h1
      have h2' : μ[i]? = some m' := by
        rw [List.getElem?_append_left (by rw [← I.len]; exact hi)] at h2; exact h2
      have k := I.cell i a m' h1' h2'
      cases m' with
      | lst l =>
        obtain ⟨k1, xs, k2, k3⟩ := k
        exact ⟨k1, xs, k2, reps.mono pre (Ex.refl _) _ k3⟩
      | dct ks l =>
        obtain ⟨k1, xs, k2, k3, k4⟩ := k
        exact ⟨k1, xs, k2, k3, reps.mono pre (Ex.refl _) _ k4⟩
      | obj x ns l =>
        obtain ⟨k1, dx, fs, k2, k3, k4⟩ := k
        exact ⟨k1, dx, fs, k2, k3, reps.mono pre (Ex.refl _) _ k4⟩
      | dead => exact k
    · have h1 : (c.io ++ [p])[i]? = some a := h1
      have hl : i < (c.io ++ [p]).length := (List.getElem?_eq_some_iff.mp h1).1
      rw [List.length_append] at hl
      have ei : i = c.io.length := by
        have : [p].length = 1 := rfl
        omega
      have e1 : a = p := by
        rw [ei, List.getElem?_append_right (Nat.le_refl _), Nat.sub_self] at h1
        simpa using h1.symm
      have e2 : m' = .lst l := by
        rw [ei, I.len, List.getElem?_append_right (Nat.le_refl _), Nat.sub_self] at h2
        simpa using h2.symm
      rw [e1, e2]
      exact ⟨g.F, xs, hH, reps.mono pre (Ex.refl _) l r⟩
  · by_cases hi : i < μ.length
    · rw [List.getElem?_append_left hi] at h
      exact I.cls i x ns l' h
    · have hl : i < (μ ++ [M.lst l]).length := (List.getElem?_eq_some_iff.mp h).1
      rw [List.length_append] at hl
      have ei : i = μ.length := by
        have : [M.lst l].length = 1 := rfl
        omega
      rw [ei, List.getElem?_append_right (Nat.le_refl _), Nat.sub_self] at h
      cases h
  · by_cases hm : q ∈ c.io
    · exact s.new q hm h2
    · have : q = p := by
        rcases List.mem_append.mp (show q ∈ c.io ++ [p] from h1) with h | h
        · exact absurd h hm
        · simpa using h
      rw [this]; exact hp
theorem pds_newL {i : Nat} {pos' : Pos} (hN : X.N.Nodup) (hi : X.N[i]? = some x) (hx : Loc X.env.scope x) (ha : PDL X S W e ds) (hs : swapsWith e (some (.Name x pos')) pos.line X.env = pure false := by rfl)
    (hf : X.fn x = true ∨ X.env.scope.names.lookup x = some .local := by first | exact .inl rfl | exact .inr rfl) : PDS X S W (.Assign [.Name x pos'] e pos) (sNew i ds) := by
  obtain ⟨t, pa, ka⟩ := ha.ex
  refine ⟨_, ps_set hN hi hx pa hs hf, fun env σ c μ E I en q => ?_⟩
  refine (show t σ c.H fun x H1 => E.nx (σ.set i (some x)) H1 from ?_)
  have q : SQ S W c E ((ds env μ).bindS env fun l μ1 => .nx (env.set i (some (.cel μ1.length))) (μ1 ++ [.lst l])) := q
  refine ka env σ c μ _ I en ?_
  cases e1 : ds env μ with
  | ok l μ1 =>
    rw [e1] at q
    intro p xs c1 hp s1 I1 g1 hH r1
    obtain ⟨I2, s2⟩ := I1.adopt g1 hH r1 s1 hp
    refine q _ ⟨c1.io ++ [p], c1.F, c1.H⟩ s2 I2 ((en.step s2).set ?_ i)
    unfold rep
    refine ⟨p, rfl, ?_⟩
    show (c1.io ++ [p])[μ1.length]? = some p
    rw [← I1.len, List.getElem?_append_right (Nat.le_refl _), Nat.sub_self]; rfl
  | ex x ns l μ1 => rw [e1] at q; exact fun dd c' s I' r => q dd σ c' s I' (en.step s) r
  | stuck => rw [e1] at q; exact q
/-- list(x) -/
def dListN (ds : DA) : DA := fun env μ => (ds env μ).bind fun l μ1 => match l with
  | [x] => match seqOf μ1 x with
    | some l => .ok l μ1
    | none => .stuck
  | _ => .stuck
/-- f(..), f of such a promise -/
def dCallN (np : Nat) (G : GN) (dd : List D) (ds : DA) : DA := fun env μ => (ds env μ).bind fun l μ1 => if (l ++ dd).length = np then G (l ++ dd) μ1 else .stuck
theorem pdl_call (F : FnOk X.prog X.w X.K X.mg X.base (L2M.CX md X.prog X.w) k f fd ps (spN (at0 S 0) np GL)) (hr : Room k X.A) (tk : L2M.Takes md X W) (hg : Gl X x) (hm : X.mg x = some (.ref f)) (hk : PySem.W.keepIn X.K (.ref f) = true) (hb : DflD S X.K fd ps dd)
    (ha : PDA X S W (e :: es) ds) (hdb : (x == ("__debug__" : Str)) = false := by decide) (he : starEach (e :: es) X.env = (false, eval e X.env) :: starEach es X.env := by rfl) (hpl : (backTo pos (starEach es X.env)).any (·.1) = false := by rfl) :
    PDL X S W (.Call (.Name x p) (e :: es) [] pos) (dCallN np GL dd ds) := by
  obtain ⟨t, pa, ka⟩ := ha.ex
  obtain ⟨dvs, dV, h1, h2, h3⟩ := hb.ex
  refine ⟨_, pe_callSD F hr hg hm hk h1 h2 (fun σ => L2M.passAt tk σ) pa hdb he hpl, fun env σ c μ Q I en q => ?_⟩
  refine (show t σ c.H fun vs H1 => spN (at0 S 0) np GL (vs ++ dvs) H1 Q (WE W σ) from ?_)
  refine ka env σ c μ _ I en ?_
  unfold dCallN at q
  cases e1 : ds env μ with
  | stuck => rw [e1] at q; exact q
  | ex x ns l μ1 => rw [e1] at q; exact q
  | ok l μ1 =>
    rw [e1] at q
    dsimp only [Out.bind] at q
    intro vs c1 s1 I1 r1
    by_cases hn : (l ++ dd).length = np
    · rw [if_pos hn] at q
      refine ⟨l ++ dd, c1.io, μ1, c1.F, ?_, SI_at.mpr I1, (reps_at _).mpr (r1.append (h3 _ _)), ?_⟩
      · rw [← (r1.append (h3 c1.io c1.F)).len]; exact hn
      · cases eo : GL (l ++ dd) μ1 with
        | stuck => rw [eo] at q; exact q
        | ok l2 μ2 =>
          rw [eo] at q
          intro p xs c' hp s ei I' g' hH r'
          have s := Step.up (S := S) s
          refine q p xs c' ?_ (s1.trans s) (SI_at.mp I') g' hH ((reps_at _).mp r')
          cases e2 : c.H p with
          | none => rfl
          | some o => exact absurd hp (s1.som p (by rw [e2]; exact fun z => nomatch z))
        | ex y ns l' μ2 =>
          rw [eo] at q
          exact fun dd c' s ei I' r' => q dd c' (s1.trans (Step.up (S := S) s)) (SI_at.mp I') (xrep_at.mp r')
    · rw [if_neg hn] at q; exact q.elim
end
end DL
/-! ### the head's facts, with one more test -/
namespace DL
open PySem PySem.Spec PyProof.Rows L2 He
abbrev AlX : Type := Bool × AlD
def obsX (chk : PySem.W.Frag → Bool) (fa : List Fa) (fn : List DefD) (K : PySem.W.Frag) : AlX := (chk K, obsD fa fn K)
def obsXG (n : Nat) (chk : PySem.W.Frag → Bool) (fa : List Fa) (fn : List DefD) (g : Addr → Option Obj) : AlX := obsX chk fa fn (frG g (asD g n))
def hookX (n : Nat) (chk : PySem.W.Frag → Bool) (fa : List Fa) (fn : List DefD) : PySem.W.Hook where
  α := AlX
  obs := fun s => obsXG n chk fa fn s.heap.get?
  val := fun _ => (true, valD fn)
  says := fun _ h => ∃ K : PySem.W.Frag, K.In h ∧ obsX chk fa fn K = (true, valD fn)
  of := fun _ _ e => ⟨_, frG_in, e⟩
  keeps := fun _ _ _ ⟨K, hK, c⟩ k => ⟨K, PySem.W.Frag.In.keeps hK k, c⟩
theorem obsXG_eq {n : Nat} {chk : PySem.W.Frag → Bool} {fa : List Fa} {fn : List DefD} {g : Addr → Option Obj} {s : Shared} (h : ∀ a, g a = s.heap.get? a) : obsXG n chk fa fn g = (hookX n chk fa fn).obs s := by
  have e : g = s.heap.get? := funext h
  rw [e] <;> rfl
theorem saysX {chk : PySem.W.Frag → Bool} {fa : List Fa} {fn : List DefD} {K : PySem.W.Frag} (h : obsX chk fa fn K = (true, valD fn)) : chk K = true ∧ SaysD fa fn K := ⟨congrArg (fun z : AlX => z.1) h, congrArg (fun z : AlX => z.2) h⟩
/-! ### what is known of a def, a class, a method -/
structure CalD (md : Bool) (P : Program) (w : World) (K : PySem.W.Frag) (mg : Str → Option Value) (base : Heap) (S : Sx) (k : Nat) (x : Str) (np : Nat) (G : GF) (dfl : List D) : Prop where
  ex : ∃ (f : Addr) (fd : FuncData) (ps : List Str), mg x = some (.ref f) ∧ PySem.W.keepIn K (.ref f) = true ∧ (∀ j, j ≤ dfl.length → DflD S K fd ps (dfl.drop j)) ∧ FnOk P w K mg base (L2M.CX md P w) k f fd ps (spD S np G)
structure CalN (md : Bool) (P : Program) (w : World) (K : PySem.W.Frag) (mg : Str → Option Value) (base : Heap) (S : Sx) (k : Nat) (x : Str) (np : Nat) (G : GN) (dfl : List D) : Prop where
  ex : ∃ (f : Addr) (fd : FuncData) (ps : List Str), mg x = some (.ref f) ∧ PySem.W.keepIn K (.ref f) = true ∧ (∀ j, j ≤ dfl.length → DflD S K fd ps (dfl.drop j)) ∧ FnOk P w K mg base (L2M.CX md P w) k f fd ps (spN S np G)
structure MetD (md : Bool) (P : Program) (w : World) (K : PySem.W.Frag) (mg : Str → Option Value) (base : Heap) (S : Sx) (k : Nat) (c m : Str) (np : Nat) (G : GF) (dfl : List D) : Prop where
  ex : ∃ (f : Addr) (fd : FuncData) (ps : List Str), MtF S c m f ∧ (∀ j, j ≤ dfl.length → DflD S K fd ps (dfl.drop j)) ∧ FnOk P w K mg base (L2M.CX md P w) k f fd ps (spD S np G)
structure MakD (md : Bool) (P : Program) (w : World) (K : PySem.W.Frag) (mg : Str → Option Value) (base : Heap) (S : Sx) (k : Nat) (c : Str) (np : Nat) (G : GF) (dfl : List D) : Prop where
  ex : ∃ (f : Addr) (fd : FuncData) (ps : List Str), mg c = some (.ref (S.A c)) ∧ MkF S c f ∧ (∀ j, j ≤ dfl.length → DflD S K fd ps (dfl.drop j)) ∧ FnOk P w K mg base (L2M.CX md P w) k f fd ps (spD S np G)
theorem DflD.at0 {S : Sx} {n : Nat} {K : PySem.W.Frag} {fd : FuncData} {ps : List Str} {dd : List D} (h : DflD S K fd ps dd) : DflD (at0 S n) K fd ps dd := by
  obtain ⟨a, b, h1, h2, h3⟩ := h.ex
  exact ⟨a, b, h1, h2, fun io F => (reps_at _).mpr (h3 io F)⟩
section
variable {X : Cx} {S0 : Sx} {n : Nat} {W : WX} {e o : Expr} {es : List Expr} {da : DE} {ds : DA} {pos p apos : Pos} {k kr : Nat} {x m c : Str} {np : Nat} {G : GF} {GL : GN} {dfl : List D}
theorem pd_c (C : CalD md X.prog X.w X.K X.mg X.base (at0 S0 0) k x np G dfl) (hr : Room kr X.A) (hk : k ≤ kr) (j : Nat) (hj : j ≤ dfl.length) (tk : L2M.Takes md X W) (hg : Gl X x) (ha : PDA X (at0 S0 n) W (e :: es) ds)
    (hdb : (x == ("__debug__" : Str)) = false := by decide) (he : starEach (e :: es) X.env = (false, eval e X.env) :: starEach es X.env := by rfl) (hpl : (backTo pos (starEach es X.env)).any (·.1) = false := by rfl) :
    PDE X (at0 S0 n) W (.Call (.Name x p) (e :: es) [] pos) (dCall np G (dfl.drop j) ds) := by
  obtain ⟨f, fd, ps, h1, h2, h3, h4⟩ := C.ex
  exact pd_call (S := at0 S0 n) h4 (hr.mono hk) tk hg h1 h2 ((h3 j hj).at0 (n := n)) ha hdb he hpl
theorem pdl_c (C : CalN md X.prog X.w X.K X.mg X.base (at0 S0 0) k x np GL dfl) (hr : Room kr X.A) (hk : k ≤ kr) (j : Nat) (hj : j ≤ dfl.length) (tk : L2M.Takes md X W) (hg : Gl X x) (ha : PDA X (at0 S0 n) W (e :: es) ds)
    (hdb : (x == ("__debug__" : Str)) = false := by decide) (he : starEach (e :: es) X.env = (false, eval e X.env) :: starEach es X.env := by rfl) (hpl : (backTo pos (starEach es X.env)).any (·.1) = false := by rfl) :
    PDL X (at0 S0 n) W (.Call (.Name x p) (e :: es) [] pos) (dCallN np GL (dfl.drop j) ds) := by
  obtain ⟨f, fd, ps, h1, h2, h3, h4⟩ := C.ex
  exact pdl_call (S := at0 S0 n) h4 (hr.mono hk) tk hg h1 h2 ((h3 j hj).at0 (n := n)) ha hdb he hpl
theorem pd_m {pl : Sem Bool} (hK : X.K = S0.K) (C : MetD md X.prog X.w X.K X.mg X.base (at0 S0 0) k c m np G dfl) (hr : Room kr X.A) (hk : k ≤ kr) (j : Nat) (hj : j ≤ dfl.length) (tk : L2M.Takes md X W) (hap : PDE X (at0 S0 n) W o da) (ha : PDA X (at0 S0 n) W (e :: es) ds)
    (hst : starEach (e :: es) X.env = (false, eval e X.env) :: starEach es X.env := by rfl) (hpl : (backTo pos (starEach es X.env)).any (·.1) = false := by rfl)
    (ht : eval (.Call (.Attribute o m apos) (e :: es) [] pos) X.env = (do
      let ov ← eval o X.env
      standAt apos.atName
      let (f, first) ← holding [ov] (getMethod ov m pl)
      callWith pos f first (backTo pos (starEach (e :: es) X.env)) (backToKw pos (keywordEach [] X.env))) := by rfl) :
    PDE X (at0 S0 n) W (.Call (.Attribute o m apos) (e :: es) [] pos) (dMeth c m np G (dfl.drop j) da ds) := by
  obtain ⟨f, fd, ps, h1, h3, h4⟩ := C.ex
  exact pd_meth (S := at0 S0 n) hK ⟨h1.cls, h1.meth⟩ h4 (hr.mono hk) tk ((h3 j hj).at0 (n := n)) hap ha hst hpl ht
theorem pd_m0 {pl : Sem Bool} (hK : X.K = S0.K) (C : MetD md X.prog X.w X.K X.mg X.base (at0 S0 0) k c m np G dfl) (hr : Room kr X.A) (hk : k ≤ kr) (j : Nat) (hj : j ≤ dfl.length) (tk : L2M.Takes md X W) (hap : PDE X (at0 S0 n) W o da)
    (ht : eval (.Call (.Attribute o m apos) [] [] pos) X.env = (do
      let ov ← eval o X.env
      standAt apos.atName
      let (f, first) ← holding [ov] (getMethod ov m pl)
      callWith pos f first (backTo pos (starEach [] X.env)) (backToKw pos (keywordEach [] X.env))) := by rfl) :
    PDE X (at0 S0 n) W (.Call (.Attribute o m apos) [] [] pos) (dMeth c m np G (dfl.drop j) da aNil) := by
  obtain ⟨f, fd, ps, h1, h3, h4⟩ := C.ex
  exact pd_meth0 (S := at0 S0 n) hK ⟨h1.cls, h1.meth⟩ h4 (hr.mono hk) tk ((h3 j hj).at0 (n := n)) hap ht
theorem pd_mk (hK : X.K = S0.K) (C : MakD md X.prog X.w X.K X.mg X.base (at0 S0 0) k c np G dfl) (hr : Room kr X.A) (hk : k + 1 ≤ kr) (j : Nat) (hj : j ≤ dfl.length) (tk : L2M.Takes md X W) (hg : Gl X c) (ha : PDA X (at0 S0 n) W (e :: es) ds)
    (hdb : (c == ("__debug__" : Str)) = false := by decide) (he : starEach (e :: es) X.env = (false, eval e X.env) :: starEach es X.env := by rfl) (hpl : (backTo pos (starEach es X.env)).any (·.1) = false := by rfl) :
    PDE X (at0 S0 n) W (.Call (.Name c p) (e :: es) [] pos) (dMake c np G (dfl.drop j) ds) := by
  obtain ⟨f, fd, ps, h1, h2, h3, h4⟩ := C.ex
  exact pd_make (S := at0 S0 n) hK ⟨h2.mke, h2.mem⟩ h4 (hr.mono hk) tk hg h1 ((h3 j hj).at0 (n := n)) ha hdb he hpl
theorem pd_mk0 (hK : X.K = S0.K) (C : MakD md X.prog X.w X.K X.mg X.base (at0 S0 0) k c np G dfl) (hr : Room kr X.A) (hk : k + 1 ≤ kr) (j : Nat) (hj : j ≤ dfl.length) (tk : L2M.Takes md X W) (hg : Gl X c) (hdb : (c == ("__debug__" : Str)) = false := by decide) :
    PDE X (at0 S0 n) W (.Call (.Name c p) [] [] pos) (dMake c np G (dfl.drop j) aNil) := by
  obtain ⟨f, fd, ps, h1, h2, h3, h4⟩ := C.ex
  exact pd_make0 (S := at0 S0 n) hK ⟨h2.mke, h2.mem⟩ h4 (hr.mono hk) tk hg h1 ((h3 j hj).at0 (n := n)) hdb
theorem takesNo : L2M.Takes md X wNo := match md with
  | true => fun _ _ ⟨_, _, _, _, _, _, _, _, _, _, _, _, _, _, _, _, z⟩ => z.elim
  | false => fun _ _ ⟨_, _, _, _, _, _, _, _, _, _, _, _, _, _, _, _, z⟩ => z.elim
end
end DL
namespace DL
open PySem PySem.Spec PyProof.Rows L2
section
variable {X : Cx} {S : Sx} {W : WX} {a b e o : Expr} {es : List Expr} {da db dc d : DE} {pos apos : Pos} {k : Nat}
/-! ### a < b < c -/
/-! ### a, b = x, y -/
def sPar (i j : Nat) (ds : DA) : DS := fun env μ => (ds env μ).bindS env fun l μ2 => match l with
  | [x, y] => .nx ((env.set i (some x)).set j (some y)) μ2
  | _ => .stuck
/-! ### methods of texts -/
structure PDM (X : Cx) (S : Sx) (id : String) (g : List M → Str → List D → Option D) : Prop where
  ex : ∃ r, MtR X id r ∧ ∀ c μ x xs l d Q, SI S c μ → okS x = true → reps S c.io c.F l xs → g μ x l = some d → (∀ v c', Step S c c' → SI S c' μ → rep S c'.io c'.F d v → Q v c'.H) → r (.str x) xs c.H Q
def dM0 (g : List M → Str → List D → Option D) (da : DE) : DE := fun env μ => (da env μ).bind fun x μ1 => match x with
  | .str x => match g μ1 x [] with
    | some d => .ok d μ1
    | none => .stuck
  | _ => .stuck
def dM1 (g : List M → Str → List D → Option D) (da db : DE) : DE := fun env μ => (da env μ).bind fun x μ1 => match x with
  | .str x => (db env μ1).bind fun y μ2 => match g μ2 x [y] with
    | some d => .ok d μ2
    | none => .stuck
  | _ => .stuck
theorem pd_sm1 {id : String} {name : Str} {g : List M → Str → List D → Option D} (m : PDM X S id g) (slot : Slot "str" name id) (ty : typeOf (.builtin id) = pure (.type "method_descriptor")) (ha : PDE X S W o da) (hb : PDE X S W e db)
    (hs : starEach [e] X.env = [(false, eval e X.env)] := by rfl) (hbase : attributeBase o name X.env (eval o X.env) = eval o X.env := by rfl) (hline : (apos.endLine == pos.line) = true := by rfl) :
    PDE X S W (.Call (.Attribute o name apos) [e] [] pos) (dM1 g da db) := by
  obtain ⟨r, hm, hr⟩ := m.ex
  obtain ⟨ta, pa, ka⟩ := ha.ex
  obtain ⟨tb, pb, kb⟩ := hb.ex
  refine ⟨_, pe_m1 slot ty hm pa pb hs hbase hline, fun env σ c μ Q I en q => ?_⟩
  refine (show ta σ c.H fun x H1 => (∃ a, x = .str a) ∧ tb σ H1 fun y H2 => r x [y] H2 Q from ?_)
  refine bindE (fun Q' => ka env σ c μ Q' I en) q fun x μ1 v c1 s1 I1 r1 q1 => ?_
  cases x with
  | str x =>
    obtain ⟨rfl, ok⟩ := rep_str.mp r1
    refine ⟨⟨x, rfl⟩, bindE (fun Q' => kb env σ c1 μ1 Q' I1 (en.step s1)) q1 fun y μ2 u c2 s2 I2 r2 q2 => ?_⟩
    cases e : g μ2 x [y] with
    | none => rw [e] at q2; exact q2.elim
    | some d =>
      rw [e] at q2
      exact hr c2 μ2 x [u] [y] d Q I2 ok (by unfold reps; exact ⟨u, [], rfl, r2, by unfold reps; rfl⟩) e fun v c' s' I' r' => q2 v c' s' I' r'
  | _ => exact q1.elim
/-! ### join -/
def strsOf : List D → Option (List Str)
  | [] => some []
  | .str x :: l => (strsOf l).map (x :: ·)
  | _ => none
theorem reps_strs : ∀ {l : List D} {ys : List Str} {io : List Addr} {F : Hp} {xs : List V}, strsOf l = some ys → reps S io F l xs → xs = ys.map V.str ∧ ∀ y ∈ ys, okS y = true
  | [], ys, io, F, xs, e, r => by
    obtain rfl := Option.some.inj e
    unfold reps at r
    subst r
    exact ⟨rfl, fun y h => nomatch h⟩
  | d :: l, ys, io, F, xs, e, r => by
    cases d with
    | str x =>
      unfold strsOf at e
      cases h : strsOf l with
      | none => rw [h] at e; cases e
      | some zs =>
        rw [h] at e
        obtain rfl := Option.some.inj e
        unfold reps at r
        obtain ⟨v, w, rfl, r1, r2⟩ := r
        obtain ⟨rfl, ok⟩ := rep_str.mp r1
        obtain ⟨rfl, k⟩ := reps_strs h r2
        exact ⟨rfl, fun y m => by
          rcases List.mem_cons.mp m with rfl | m
          · exact ok
          · exact k y m⟩
    | _ => cases e
theorem okS_nil : okS ⟨#[]⟩ = true := by decide +kernel
theorem okS_join {y : Str} (hy : okS y = true) : ∀ (l : List Str), (∀ x ∈ l, okS x = true) → okS (Str.join y l) = true
  | [], _ => okS_nil
  | [x], h => h x List.mem_cons_self
  | x :: z :: r, h => okS_append (okS_append (h x List.mem_cons_self) hy) (okS_join hy (z :: r) fun w m => h w (List.mem_cons_of_mem _ m))
def dJoin (μ : List M) (x : Str) (l : List D) : Option D := match l with
  | [d] => (lstOf μ d).bind fun l => (strsOf l).bind fun ys => if (ys.map (·.length)).sum + ys.length * x.length ≤ 100000 then some (.str (Str.join x ys)) else none
  | _ => none
theorem pm_join (hK : X.K = S.K) : PDM X S "str.join" dJoin := by
  refine ⟨_, mt_join, fun c μ x xs l d Q I ok r1 e q => ?_⟩
  unfold dJoin at e
  split at e
  · rename_i dd
    unfold reps at r1
    obtain ⟨v, r, rfl, r1, r2⟩ := r1
    unfold reps at r2
    subst r2
    cases h : lstOf μ dd with
    | none => rw [h] at e; cases e
    | some l =>
      rw [h] at e
      cases h2 : strsOf l with
      | none => rw [Option.bind_some, h2] at e; cases e
      | some ys =>
        rw [Option.bind_some, h2, Option.bind_some] at e
        split at e
        · rename_i hl
          obtain rfl := Option.some.inj e
          obtain ⟨p, zs, rfl, k1, k2⟩ := lst_at I r1 h
          obtain ⟨rfl, k⟩ := reps_strs h2 k2
          refine ⟨x, p, ys, rfl, rfl, .inl (by rw [hK]; exact sq_of k1), Nat.le_trans hl (by decide), ?_⟩
          rw [TL.join_eq]
          exact q _ c I.step I (rep_str.mpr ⟨rfl, okS_join ok ys k⟩)
        · cases e
  · cases e
/-! ### text * int -/
/-! ### text[::-1] -/
def revS (x : Str) : Str := ⟨x.cps.toList.reverse.toArray⟩
end
end DL
namespace DL
open PySem PySem.Spec PyProof.Rows L2
/-! ### <, <=, >, >= of alike data -/
end DL
namespace DL
open PySem PySem.Spec PyProof.Rows L2
/-! ### the ends: the law's def, from its value -/
theorem law_sp {S : Sx} {G : GF} {H : Hp} {a : Addr} {ns : List Int} (h : ∃ μ, G [.scr ns] [] = .ok (.bl true) μ) (hS : SqL S.K H a (ns.map V.int)) : spD S 1 G [.ref a] H (fun v _ => v = .bl true) (fun _ _ _ => False) := by
  obtain ⟨μ, h⟩ := h
  refine ⟨[.scr ns], [], [], H, rfl, ⟨fun _ _ e => e, rfl, List.nodup_nil, fun i a m h => by simp at h, fun i x ns l h => by simp at h⟩, ?_, ?_⟩
  · unfold reps
    refine ⟨.ref a, [], rfl, ?_, by unfold reps; rfl⟩
    unfold rep
    exact ⟨a, rfl, hS⟩
  · rw [h]
    exact fun v c' _ _ _ r => rep_bl.mp r
/-- decidable readings of what a class, a kind needs -/
def insB (K : PySem.W.Frag) (C : Addr) : Bool := He.eqO (PySem.W.findIn K (.ref C) "__class__") (some (some (.builtin "object.__class__"))) && (He.eqO (PySem.W.specialIn K (.builtin "object.__class__") "__get__") (some (some (.builtin "getset_descriptor.__get__"))) &&
  (decide (PySem.W.takesIn K (.builtin "object.__class__") = some true) && decide (PySem.W.mroIn K C (.type "object") = some true)))
theorem insB_ok {K : PySem.W.Frag} {C : Addr} (hc : Cls K C) (h : insB K C = true) : InsF K C := by
  unfold insB at h
  obtain ⟨h1, h⟩ := Bool.and_eq_true_iff.mp h
  obtain ⟨h2, h⟩ := Bool.and_eq_true_iff.mp h
  obtain ⟨h3, h4⟩ := Bool.and_eq_true_iff.mp h
  exact ⟨hc, He.eqO_ok h1, He.eqO_ok h2, of_decide_eq_true h3, of_decide_eq_true h4⟩
def kitB (S : Sx) (u : Ty) : Bool := (tysOf S).all fun t => decide (PySem.W.kitOne S.K (tyv S t) (tyv S u) = some (isSub t u))
theorem kitB_ok {S : Sx} {u : Ty} (h : kitB S u = true) : KitF S u := fun t m => of_decide_eq_true (List.all_eq_true.mp h t m)
theorem exF_of {K : PySem.W.Frag} {x : Str} {cls : List Str} {n : Nat} (c : (He.Fa.exc x).ok K = true) : ExF (at0 ⟨K, He.ga K, 0, [], cls⟩ n) x := by
  obtain ⟨h1, h2, h3, h4⟩ := He.exc_ok c
  exact ⟨h1, h2, h3, h4⟩
/-- what a call lets out, in any world -/
def CXA (P : Program) : CXT := fun outer H s E u s' => ∃ w, L2M.CX true P w outer H s E u s'
theorem cxA_false {P : Program} {H : Hp} {s : Shared} {e : Value} {s' : Shared} (h : CXA P [] H s (fun _ _ _ => False) e s') : False := by
  obtain ⟨_, _, _, _, _, _, _, _, _, _, _, _, _, h⟩ := h
  exact h
theorem fnOk_any {P : Program} {w : World} {K : PySem.W.Frag} {mg : Str → Option Value} {base : Heap} {k : Nat} {f : Addr} {fd : FuncData} {ps : List Str} {sp : Sp} (F : FnOk P w K mg base (L2M.CX md P w) k f fd ps sp) : FnOk P w K mg base (CXA P) k f fd ps sp :=
  ⟨F.len, fun A outer s H args us vs Q E hr he hb hv hs => codeAny_mono (F.run A outer s H args us vs Q E hr he hb hv hs) fun r s' h => by
    cases r with
    | error e => exact ⟨w, L2M.cx_top h⟩
    | ok o => cases o <;> exact h⟩
end DL
namespace DL
open PySem PySem.Spec PyProof.Rows L2
/-! ### what a denotation comes to: its value, by what is asked behind it. The boxes keep what is asked behind out of simp's sight -/
abbrev XP := Str → List Str → List D → List M → Prop
structure Kt {α : Type} (Q : α → List M → Prop) (X : XP) : Type where
structure Ko {α : Type} (Q : α → Prop) : Type where
structure Ks (N : En → List M → Prop) (R : D → List M → Prop) (B C : En → List M → Prop) (X : Str → List Str → List D → En → List M → Prop) : Type where
def WO {α : Type} (o : Out α) (Q : α → List M → Prop) (X : XP) (_ : Kt Q X) : Prop := match o with
  | .ok x μ => Q x μ
  | .ex c ns l μ => X c ns l μ
  | .stuck => False
def OP {α : Type} (o : Option α) (Q : α → Prop) (_ : Ko Q) : Prop := match o with
  | some d => Q d
  | none => False
def WS (o : SO) (N : En → List M → Prop) (R : D → List M → Prop) (B C : En → List M → Prop) (X : Str → List Str → List D → En → List M → Prop) (_ : Ks N R B C X) : Prop := match o with
  | .nx e μ => N e μ
  | .rt d μ => R d μ
  | .bk e μ => B e μ
  | .ct e μ => C e μ
  | .ex c ns l e μ => X c ns l e μ
  | .stuck => False
def xNo : XP := fun _ _ _ _ => False
section
variable {α β : Type} {Q : α → List M → Prop} {X : XP} {k : Kt Q X} {N : En → List M → Prop} {R : D → List M → Prop} {B C : En → List M → Prop} {Z : Str → List Str → List D → En → List M → Prop} {ks : Ks N R B C Z} {env : En} {μ : List M}
theorem WO.mono {o : Out α} {Q' : α → List M → Prop} {X' : XP} (h : WO o Q X k) (q : ∀ x m, Q x m → Q' x m) (x : ∀ c ns l m, X c ns l m → X' c ns l m) : WO o Q' X' ⟨⟩ := by
  cases o with
  | ok a m => exact q a m h
  | ex c ns l m => exact x c ns l m h
  | stuck => exact h
/-- a spec without refusals, used -/
theorem WO.use {o : Out α} {Q' : α → List M → Prop} {k' : Kt Q' xNo} (h : WO o Q' xNo k') (q : ∀ x m, Q' x m → Q x m) : WO o Q X ⟨⟩ := h.mono q fun _ _ _ _ z => z.elim
theorem WO.ex_ {o : Out α} {k : Kt Q xNo} (h : WO o Q xNo k) : ∃ x m, o = .ok x m ∧ Q x m := by
  cases o with
  | ok a m => exact ⟨a, m, rfl, h⟩
  | ex c ns l m => exact h.elim
  | stuck => exact h.elim
theorem w_ok {x : α} : WO (.ok x μ) Q X k = Q x μ := id rfl
theorem w_ex {c : Str} {ns : List Str} {l : List D} : WO (.ex c ns l μ : Out α) Q X k = X c ns l μ := id rfl
theorem w_bind {Q : β → List M → Prop} {k : Kt Q X} {o : Out α} {f : α → List M → Out β} : WO (o.bind f) Q X k = WO o (fun x m => WO (f x m) Q X ⟨⟩) X ⟨⟩ := by cases o <;> rfl
theorem w_bindS {o : Out α} {f : α → List M → SO} : WS (o.bindS env f) N R B C Z ks = WO o (fun x m => WS (f x m) N R B C Z ⟨⟩) (fun c ns l m => Z c ns l env m) ⟨⟩ := by cases o <;> rfl
theorem s_bind {o : SO} {f : En → List M → SO} : WS (o.bind f) N R B C Z ks = WS o (fun e m => WS (f e m) N R B C Z ⟨⟩) R B C Z ⟨⟩ := by cases o <;> rfl
theorem o_some {Q : α → Prop} {k : Ko Q} {x : α} : OP (some x) Q k = Q x := id rfl
/-! expressions -/
theorem w_dC {Q : D → List M → Prop} {k : Kt Q X} {d : D} : WO (dC d env μ) Q X k = Q d μ := id rfl
theorem w_var {Q : D → List M → Prop} {k : Kt Q X} {i : Nat} : WO (dVar i env μ) Q X k = OP (env[i]?.join) (fun d => Q d μ) ⟨⟩ := by
  unfold dVar
  cases env[i]? with
  | none => rfl
  | some o => cases o <;> rfl
theorem w_op {Q : D → List M → Prop} {k : Kt Q X} {g : List M → D → D → Option D} {a b : DE} : WO (dOp g a b env μ) Q X k = WO (a env μ) (fun x m => WO (b env m) (fun y m2 => OP (g m2 x y) (fun d => Q d m2) ⟨⟩) X ⟨⟩) X ⟨⟩ := by
  unfold dOp
  cases a env μ with
  | ok x m =>
    show WO ((b env m).bind _) Q X _ = WO (b env m) _ X ⟨⟩
    cases b env m with
    | ok y m2 =>
      show WO (match g m2 x y with | some d => .ok d m2 | none => .stuck) Q X _ = OP (g m2 x y) _ ⟨⟩
      cases g m2 x y <;> rfl
    | ex _ _ _ _ => rfl
    | stuck => rfl
  | ex _ _ _ _ => rfl
  | stuck => rfl
theorem a_nil {Q : List D → List M → Prop} {k : Kt Q X} : WO (aNil env μ) Q X k = Q [] μ := id rfl
theorem a_cons {Q : List D → List M → Prop} {k : Kt Q X} {a : DE} {as : DA} : WO (aCons a as env μ) Q X k = WO (a env μ) (fun x m => WO (as env m) (fun l m2 => Q (x :: l) m2) X ⟨⟩) X ⟨⟩ := by
  unfold aCons
  cases a env μ with
  | ok x m =>
    show WO ((as env m).bind _) Q X _ = WO (as env m) _ X ⟨⟩
    cases as env m <;> rfl
  | ex _ _ _ _ => rfl
  | stuck => rfl
theorem w_tup {Q : D → List M → Prop} {k : Kt Q X} {as : DA} : WO (dTup as env μ) Q X k = WO (as env μ) (fun l m => l.length ≤ 100000 ∧ Q (.tup l) m) X ⟨⟩ := by
  unfold dTup
  cases as env μ with
  | ok l m =>
    show WO (if l.length ≤ 100000 then _ else _) Q X _ = (l.length ≤ 100000 ∧ Q (.tup l) m)
    by_cases h : l.length ≤ 100000
    · rw [if_pos h]; exact propext ⟨fun q => ⟨h, q⟩, fun q => q.2⟩
    · rw [if_neg h]; exact propext ⟨fun q => q.elim, fun q => absurd q.1 h⟩
  | ex _ _ _ _ => rfl
  | stuck => rfl
theorem w_lst {Q : D → List M → Prop} {k : Kt Q X} {as : DA} : WO (dLst as env μ) Q X k = WO (as env μ) (fun l m => l.length ≤ 100000 ∧ Q (.lst l) m) X ⟨⟩ := by
  unfold dLst
  cases as env μ with
  | ok l m =>
    show WO (if l.length ≤ 100000 then _ else _) Q X _ = (l.length ≤ 100000 ∧ Q (.lst l) m)
    by_cases h : l.length ≤ 100000
    · rw [if_pos h]; exact propext ⟨fun q => ⟨h, q⟩, fun q => q.2⟩
    · rw [if_neg h]; exact propext ⟨fun q => q.elim, fun q => absurd q.1 h⟩
  | ex _ _ _ _ => rfl
  | stuck => rfl
theorem w_blt {Q : D → List M → Prop} {k : Kt Q X} {g : List M → List D → Option D} {as : DA} : WO (dBlt g as env μ) Q X k = WO (as env μ) (fun l m => OP (g m l) (fun d => Q d m) ⟨⟩) X ⟨⟩ := by
  unfold dBlt
  cases as env μ with
  | ok l m =>
    show WO (match g m l with | some d => .ok d m | none => .stuck) Q X _ = OP (g m l) _ ⟨⟩
    cases g m l <;> rfl
  | ex _ _ _ _ => rfl
  | stuck => rfl
theorem w_call {Q : D → List M → Prop} {k : Kt Q X} {np : Nat} {G : GF} {dd : List D} {as : DA} : WO (dCall np G dd as env μ) Q X k = WO (as env μ) (fun l m => (l ++ dd).length = np ∧ WO (G (l ++ dd) m) Q X ⟨⟩) X ⟨⟩ := by
  unfold dCall
  cases as env μ with
  | ok l m =>
    show WO (if (l ++ dd).length = np then _ else _) Q X _ = ((l ++ dd).length = np ∧ _)
    by_cases h : (l ++ dd).length = np
    · rw [if_pos h]; exact propext ⟨fun q => ⟨h, q⟩, fun q => q.2⟩
    · rw [if_neg h]; exact propext ⟨fun q => q.elim, fun q => absurd q.1 h⟩
  | ex _ _ _ _ => rfl
  | stuck => rfl
theorem w_callN {Q : List D → List M → Prop} {k : Kt Q X} {np : Nat} {G : GN} {dd : List D} {as : DA} : WO (dCallN np G dd as env μ) Q X k = WO (as env μ) (fun l m => (l ++ dd).length = np ∧ WO (G (l ++ dd) m) Q X ⟨⟩) X ⟨⟩ := by
  unfold dCallN
  cases as env μ with
  | ok l m =>
    show WO (if (l ++ dd).length = np then _ else _) Q X _ = ((l ++ dd).length = np ∧ _)
    by_cases h : (l ++ dd).length = np
    · rw [if_pos h]; exact propext ⟨fun q => ⟨h, q⟩, fun q => q.2⟩
    · rw [if_neg h]; exact propext ⟨fun q => q.elim, fun q => absurd q.1 h⟩
  | ex _ _ _ _ => rfl
  | stuck => rfl
theorem w_or {Q : D → List M → Prop} {k : Kt Q X} {a b : DE} : WO (dOr a b env μ) Q X k = WO (a env μ) (fun x m => OP (truth m x) (fun t => if t = true then Q x m else WO (b env m) Q X ⟨⟩) ⟨⟩) X ⟨⟩ := by
  unfold dOr
  cases a env μ with
  | ok x m =>
    show WO (match truth m x with | some true => _ | some false => _ | none => _) Q X _ = OP (truth m x) _ ⟨⟩
    cases truth m x with
    | none => rfl
    | some t => cases t <;> rfl
  | ex _ _ _ _ => rfl
  | stuck => rfl
theorem w_and {Q : D → List M → Prop} {k : Kt Q X} {a b : DE} : WO (dAnd a b env μ) Q X k = WO (a env μ) (fun x m => OP (truth m x) (fun t => if t = true then WO (b env m) Q X ⟨⟩ else Q x m) ⟨⟩) X ⟨⟩ := by
  unfold dAnd
  cases a env μ with
  | ok x m =>
    show WO (match truth m x with | some true => _ | some false => _ | none => _) Q X _ = OP (truth m x) _ ⟨⟩
    cases truth m x with
    | none => rfl
    | some t => cases t <;> rfl
  | ex _ _ _ _ => rfl
  | stuck => rfl
theorem w_not {Q : D → List M → Prop} {k : Kt Q X} {a : DE} : WO (dNot a env μ) Q X k = WO (a env μ) (fun x m => OP (truth m x) (fun t => Q (.bl (!t)) m) ⟨⟩) X ⟨⟩ := by
  unfold dNot
  cases a env μ with
  | ok x m =>
    show WO (match truth m x with | some b => .ok (.bl (!b)) m | none => .stuck) Q X _ = OP (truth m x) _ ⟨⟩
    cases truth m x <;> rfl
  | ex _ _ _ _ => rfl
  | stuck => rfl
theorem w_neg {Q : D → List M → Prop} {k : Kt Q X} {a : DE} : WO (dNeg a env μ) Q X k = WO (a env μ) (fun x m => OP (opNeg m x) (fun d => Q d m) ⟨⟩) X ⟨⟩ := by
  unfold dNeg
  cases a env μ with
  | ok x m => cases x <;> rfl
  | ex _ _ _ _ => rfl
  | stuck => rfl
theorem w_if {Q : D → List M → Prop} {k : Kt Q X} {t : DT} {a b : DE} : WO (dIfE t a b env μ) Q X k = WO (t env μ) (fun c m => if c = true then WO (a env m) Q X ⟨⟩ else WO (b env m) Q X ⟨⟩) X ⟨⟩ := by
  unfold dIfE
  cases t env μ with
  | ok c m => cases c <;> rfl
  | ex _ _ _ _ => rfl
  | stuck => rfl
theorem w_chain {Q : D → List M → Prop} {k : Kt Q X} {g g' : List M → D → D → Option D} {a b c : DE} : WO (dChain g g' a b c env μ) Q X k = WO (a env μ) (fun x m => WO (b env m) (fun y m2 => OP (g m2 x y) (fun d => d = .bl true ∧ WO (c env m2) (fun z m3 => OP (g' m3 y z) (fun d => Q d m3) ⟨⟩) X ⟨⟩ ∨ d = .bl false ∧ Q (.bl false) m2) ⟨⟩) X ⟨⟩) X ⟨⟩ := by
  unfold dChain
  cases a env μ with
  | ok x m =>
    show WO ((b env m).bind _) Q X _ = WO (b env m) _ X ⟨⟩
    cases b env m with
    | ok y m2 =>
      show WO (match g m2 x y with | some (.bl k) => _ | _ => .stuck) Q X _ = OP (g m2 x y) _ ⟨⟩
      cases g m2 x y with
      | none => rfl
      | some d =>
        cases d with
        | bl t =>
          cases t with
          | false => exact propext ⟨fun q => .inr ⟨rfl, q⟩, fun q => q.elim (fun z => nomatch z.1) fun z => z.2⟩
          | true =>
            have e : WO ((c env m2).bind fun z μ3 => match g' μ3 y z with | some d => .ok d μ3 | none => .stuck) Q X ⟨⟩ = WO (c env m2) (fun z m3 => OP (g' m3 y z) (fun d => Q d m3) ⟨⟩) X ⟨⟩ := by
              cases c env m2 with
              | ok z m3 =>
                show WO (match g' m3 y z with | some d => .ok d m3 | none => .stuck) Q X _ = OP (g' m3 y z) _ ⟨⟩
                cases g' m3 y z <;> rfl
              | ex _ _ _ _ => rfl
              | stuck => rfl
            exact propext ⟨fun q => .inl ⟨rfl, e ▸ q⟩, fun q => q.elim (fun z => e.symm ▸ z.2) fun z => nomatch z.1⟩
        | _ => exact propext ⟨fun q => q.elim, fun q => q.elim (fun z => nomatch z.1) fun z => nomatch z.1⟩
    | ex _ _ _ _ => rfl
    | stuck => rfl
  | ex _ _ _ _ => rfl
  | stuck => rfl
theorem t_tru {Q : Bool → List M → Prop} {k : Kt Q X} {a : DE} : WO (dTru a env μ) Q X k = WO (a env μ) (fun x m => OP (truth m x) (fun t => Q t m) ⟨⟩) X ⟨⟩ := by
  unfold dTru
  cases a env μ with
  | ok x m =>
    show WO (match truth m x with | some b => .ok b m | none => .stuck) Q X _ = OP (truth m x) _ ⟨⟩
    cases truth m x <;> rfl
  | ex _ _ _ _ => rfl
  | stuck => rfl
def isB : D → Option Bool
  | .bl b => some b
  | _ => none
theorem t_tst {Q : Bool → List M → Prop} {k : Kt Q X} {a : DE} : WO (dTst a env μ) Q X k = WO (a env μ) (fun x m => OP (isB x) (fun t => Q t m) ⟨⟩) X ⟨⟩ := by
  unfold dTst
  cases a env μ with
  | ok x m => cases x <;> rfl
  | ex _ _ _ _ => rfl
  | stuck => rfl
theorem t_and {Q : Bool → List M → Prop} {k : Kt Q X} {a b : DT} : WO (tAnd2 a b env μ) Q X k = WO (a env μ) (fun t m => if t = true then WO (b env m) Q X ⟨⟩ else Q false m) X ⟨⟩ := by
  unfold tAnd2
  cases a env μ with
  | ok t m => cases t <;> rfl
  | ex _ _ _ _ => rfl
  | stuck => rfl
theorem t_or {Q : Bool → List M → Prop} {k : Kt Q X} {a b : DT} : WO (tOr2 a b env μ) Q X k = WO (a env μ) (fun t m => if t = true then Q true m else WO (b env m) Q X ⟨⟩) X ⟨⟩ := by
  unfold tOr2
  cases a env μ with
  | ok t m => cases t <;> rfl
  | ex _ _ _ _ => rfl
  | stuck => rfl
theorem t_not {Q : Bool → List M → Prop} {k : Kt Q X} {a : DT} : WO (tNot2 a env μ) Q X k = WO (a env μ) (fun t m => Q (!t) m) X ⟨⟩ := by
  unfold tNot2
  cases a env μ <;> rfl
theorem p_no {Q : Option Int → List M → Prop} {k : Kt Q X} : WO (dNoP env μ) Q X k = Q none μ := id rfl
def isI : D → Option Int
  | .int b => some b
  | _ => none
theorem p_some {Q : Option Int → List M → Prop} {k : Kt Q X} {a : DE} : WO (dP a env μ) Q X k = WO (a env μ) (fun x m => OP (isI x) (fun i => Q (some i) m) ⟨⟩) X ⟨⟩ := by
  unfold dP
  cases a env μ with
  | ok x m => cases x <;> rfl
  | ex _ _ _ _ => rfl
  | stuck => rfl
theorem w_slc {Q : D → List M → Prop} {k : Kt Q X} {a : DE} {l h : En → List M → Out (Option Int)} : WO (dSlc a l h env μ) Q X k = WO (a env μ) (fun x m => WO (l env m) (fun lo m2 => WO (h env m2) (fun hi m3 => OP (slc m3 lo hi x) (fun d => Q d m3) ⟨⟩) X ⟨⟩) X ⟨⟩) X ⟨⟩ := by
  unfold dSlc
  cases a env μ with
  | ok x m =>
    show WO ((l env m).bind _) Q X _ = WO (l env m) _ X ⟨⟩
    cases l env m with
    | ok lo m2 =>
      show WO ((h env m2).bind _) Q X _ = WO (h env m2) _ X ⟨⟩
      cases h env m2 with
      | ok hi m3 =>
        show WO (match slc m3 lo hi x with | some d => .ok d m3 | none => .stuck) Q X _ = OP (slc m3 lo hi x) _ ⟨⟩
        cases slc m3 lo hi x <;> rfl
      | ex _ _ _ _ => rfl
      | stuck => rfl
    | ex _ _ _ _ => rfl
    | stuck => rfl
  | ex _ _ _ _ => rfl
  | stuck => rfl
def isS : D → Option Str
  | .str b => some b
  | _ => none
theorem w_m1 {Q : D → List M → Prop} {k : Kt Q X} {g : List M → Str → List D → Option D} {a b : DE} : WO (dM1 g a b env μ) Q X k = WO (a env μ) (fun x m => OP (isS x) (fun z => WO (b env m) (fun y m2 => OP (g m2 z [y]) (fun d => Q d m2) ⟨⟩) X ⟨⟩) ⟨⟩) X ⟨⟩ := by
  unfold dM1
  cases a env μ with
  | ok x m =>
    cases x with
    | str z =>
      show WO ((b env m).bind _) Q X _ = WO (b env m) _ X ⟨⟩
      cases b env m with
      | ok y m2 =>
        show WO (match g m2 z [y] with | some d => .ok d m2 | none => .stuck) Q X _ = OP (g m2 z [y]) _ ⟨⟩
        cases g m2 z [y] <;> rfl
      | ex _ _ _ _ => rfl
      | stuck => rfl
    | _ => rfl
  | ex _ _ _ _ => rfl
  | stuck => rfl
theorem w_fld {Q : D → List M → Prop} {k : Kt Q X} {f : Str} {a : DE} : WO (dFld f a env μ) Q X k = WO (a env μ) (fun x m => OP ((clsAt m x).bind fun _ => fldAt m f x) (fun d => Q d m) ⟨⟩) X ⟨⟩ := by
  unfold dFld
  cases a env μ with
  | ok x m =>
    show WO (match clsAt m x with | some _ => (match fldAt m f x with | some d => .ok d m | none => .stuck) | none => .stuck) Q X _ = OP ((clsAt m x).bind fun _ => fldAt m f x) _ ⟨⟩
    cases clsAt m x with
    | none => rfl
    | some _ => cases e : fldAt m f x <;> simp only [Option.bind_some, e] <;> rfl
  | ex _ _ _ _ => rfl
  | stuck => rfl
/-! statements -/
theorem s_nil : WS (sNil env μ) N R B C Z ks = N env μ := id rfl
theorem s_brk : WS (sBrk env μ) N R B C Z ks = B env μ := id rfl
theorem s_cnt : WS (sCnt env μ) N R B C Z ks = C env μ := id rfl
theorem s_retN : WS (sRetN env μ) N R B C Z ks = R .non μ := id rfl
theorem s_raise {x : Str} : WS (sRaise x env μ) N R B C Z ks = Z x [] [] env μ := id rfl
theorem s_seq {a b : DS} : WS (sSeq a b env μ) N R B C Z ks = WS (a env μ) (fun e m => WS (b e m) N R B C Z ⟨⟩) R B C Z ⟨⟩ := s_bind
theorem s_ret {a : DE} : WS (sRet a env μ) N R B C Z ks = WO (a env μ) (fun x m => R x m) (fun c ns l m => Z c ns l env m) ⟨⟩ := w_bindS
theorem s_exp {a : DE} : WS (sExp a env μ) N R B C Z ks = WO (a env μ) (fun x m => N env m) (fun c ns l m => Z c ns l env m) ⟨⟩ := w_bindS
theorem s_if {t : DT} {a b : DS} : WS (sIf t a b env μ) N R B C Z ks = WO (t env μ) (fun c m => if c = true then WS (a env m) N R B C Z ⟨⟩ else WS (b env m) N R B C Z ⟨⟩) (fun c ns l m => Z c ns l env m) ⟨⟩ := by
  unfold sIf
  cases t env μ with
  | ok c m => cases c <;> rfl
  | ex _ _ _ _ => rfl
  | stuck => rfl
theorem s_set {d : DE} {i : Nat} : WS (sAsg d (gNm i) env μ) N R B C Z ks = WO (d env μ) (fun x m => N (env.set i (some x)) m) (fun c ns l m => Z c ns l env m) ⟨⟩ := by
  unfold sAsg
  cases d env μ <;> rfl
theorem s_asg {d : DE} {g : DG} : WS (sAsg d g env μ) N R B C Z ks = WO (d env μ) (fun x m => OP (g x env m) (fun e => N e m) ⟨⟩) (fun c ns l m => Z c ns l env m) ⟨⟩ := by
  unfold sAsg
  cases d env μ with
  | ok x m =>
    show WS (match g x env m with | some e => .nx e m | none => .stuck) N R B C Z _ = OP (g x env m) _ ⟨⟩
    cases g x env m <;> rfl
  | ex _ _ _ _ => rfl
  | stuck => rfl
theorem s_new {i : Nat} {as : DA} : WS (sNew i as env μ) N R B C Z ks = WO (as env μ) (fun l m => N (env.set i (some (.cel m.length))) (m ++ [.lst l])) (fun c ns l m => Z c ns l env m) ⟨⟩ := w_bindS
theorem s_cel {i : Nat} {as : DA} : WS (sCel i as env μ) N R B C Z ks = WO (as env μ) (fun l m => l.length ≤ 100000 ∧ N (env.set i (some (.cel m.length))) (m ++ [.lst l])) (fun c ns l m => Z c ns l env m) ⟨⟩ := by
  unfold sCel
  cases as env μ with
  | ok l m =>
    show WS (if l.length ≤ 100000 then _ else _) N R B C Z _ = (l.length ≤ 100000 ∧ _)
    by_cases h : l.length ≤ 100000
    · rw [if_pos h]; exact propext ⟨fun q => ⟨h, q⟩, fun q => q.2⟩
    · rw [if_neg h]; exact propext ⟨fun q => q.elim, fun q => absurd q.1 h⟩
  | ex _ _ _ _ => rfl
  | stuck => rfl
theorem s_retC {as : DA} : WS (sRetC as env μ) N R B C Z ks = WO (as env μ) (fun l m => l.length ≤ 100000 ∧ R (.cel m.length) (m ++ [.lst l])) (fun c ns l m => Z c ns l env m) ⟨⟩ := by
  unfold sRetC
  cases as env μ with
  | ok l m =>
    show WS (if l.length ≤ 100000 then _ else _) N R B C Z _ = (l.length ≤ 100000 ∧ _)
    by_cases h : l.length ≤ 100000
    · rw [if_pos h]; exact propext ⟨fun q => ⟨h, q⟩, fun q => q.2⟩
    · rw [if_neg h]; exact propext ⟨fun q => q.elim, fun q => absurd q.1 h⟩
  | ex _ _ _ _ => rfl
  | stuck => rfl
def pairOf : List D → Option (D × D)
  | [x, y] => some (x, y)
  | _ => none
theorem s_par {i j : Nat} {as : DA} : WS (sPar i j as env μ) N R B C Z ks = WO (as env μ) (fun l m => OP (pairOf l) (fun p => N ((env.set i (some p.1)).set j (some p.2)) m) ⟨⟩) (fun c ns l m => Z c ns l env m) ⟨⟩ := by
  unfold sPar
  cases as env μ with
  | ok l m =>
    match l with
    | [x, y] => rfl
    | [] => rfl
    | [_] => rfl
    | _ :: _ :: _ :: _ => rfl
  | ex _ _ _ _ => rfl
  | stuck => rfl
end
end DL
namespace DL
open PySem PySem.Spec PyProof.Rows L2
def putIx (m : List M) (x n y : D) : Option (List M) := match x, n with
  | .cel i, .int k => match m[i]? with
    | some (.lst l) => match ixN l.length k with
      | some j => some (m.set i (.lst (l.set j y)))
      | none => none
    | _ => none
  | _, _ => none
theorem s_setIx {N : En → List M → Prop} {R : D → List M → Prop} {B C : En → List M → Prop} {Z : Str → List Str → List D → En → List M → Prop} {ks : Ks N R B C Z} {env : En} {μ : List M} {e a i : DE} :
    WS (sSetIx e a i env μ) N R B C Z ks = WO (e env μ) (fun y m => WO (a env m) (fun x m2 => WO (i env m2) (fun n m3 => OP (putIx m3 x n y) (fun m4 => N env m4) ⟨⟩) (fun c ns l m => Z c ns l env m) ⟨⟩) (fun c ns l m => Z c ns l env m) ⟨⟩) (fun c ns l m => Z c ns l env m) ⟨⟩ := by
  unfold sSetIx
  rw [w_bindS]
  cases e env μ with
  | ok y m =>
    show WS ((a env m).bindS env _) N R B C Z ⟨⟩ = WO (a env m) _ _ ⟨⟩
    rw [w_bindS]
    cases a env m with
    | ok x m2 =>
      show WS ((i env m2).bindS env _) N R B C Z ⟨⟩ = WO (i env m2) _ _ ⟨⟩
      rw [w_bindS]
      cases i env m2 with
      | ok n m3 =>
        cases x <;> first | rfl | skip
        cases n <;> first | rfl | skip
        rename_i c k
        show WS (match m3[c]? with | some (.lst l) => (match ixN l.length k with | some j => .nx env (m3.set c (.lst (l.set j y))) | none => .stuck) | _ => .stuck) N R B C Z ⟨⟩ = OP (match m3[c]? with | some (.lst l) => (match ixN l.length k with | some j => some (m3.set c (.lst (l.set j y))) | none => none) | _ => none) _ ⟨⟩
        cases m3[c]? with
        | none => rfl
        | some o =>
          cases o <;> first | rfl | skip
          rename_i l
          dsimp only
          cases ixN l.length k <;> rfl
      | ex _ _ _ _ => rfl
      | stuck => rfl
    | ex _ _ _ _ => rfl
    | stuck => rfl
  | ex _ _ _ _ => rfl
  | stuck => rfl
end DL
namespace DL
open PySem PySem.Spec PyProof.Rows L2
section
variable {m : List M} {i j : Int} {x y : Str} {b c : Bool} {l l' : List D} {d : D}
theorem e_add : opAdd m (.int i) (.int j) = some (.int (i + j)) := id rfl
theorem e_addS : opAdd m (.str x) (.str y) = if x.length + y.length ≤ 100000 then some (.str (x ++ y)) else none := id rfl
theorem e_addL {d e : D} (h : lstOf m d = some l) (h' : lstOf m e = some l') : opAdd m d e = if l.length + l'.length ≤ 100000 then some (.lst (l ++ l')) else none := by
  unfold opAdd
  split
  · cases h
  · cases h
  · unfold addSeq
    rw [h, h']
theorem e_sub : opSub m (.int i) (.int j) = some (.int (i - j)) := id rfl
theorem e_mulR (h : -9223372036854775808 < j) (h' : j < 9223372036854775808) : opMul m (.int i) (.int j) = some (.int (i * j)) := by
  have h : j.natAbs < 9223372036854775808 := by omega
  unfold opMul mulSmall
  simp [h]
theorem e_mulL (h : -9223372036854775808 < i) (h' : i < 9223372036854775808) : opMul m (.int i) (.int j) = some (.int (i * j)) := by
  have h : i.natAbs < 9223372036854775808 := by omega
  unfold opMul mulSmall
  simp [h]
theorem e_mod : opMod m (.int i) (.int j) = if 0 < j then some (.int (i % j)) else none := id rfl
theorem e_div : opDiv m (.int i) (.int j) = if 0 < j ∧ j.natAbs.log2 < 9000 then some (.int (i / j)) else none := id rfl
theorem e_divS (h : 0 < j) (h' : j < 9223372036854775808) : opDiv m (.int i) (.int j) = some (.int (i / j)) := by
  have : j.natAbs.log2 < 63 := (Nat.log2_lt (by omega)).mpr (by omega)
  rw [e_div, if_pos ⟨h, by omega⟩]
theorem e_modS (h : 0 < j) : opMod m (.int i) (.int j) = some (.int (i % j)) := by rw [e_mod, if_pos h]
theorem e_pow (h : 0 ≤ j) (h1 : j ≤ 1000000) (h2 : -9223372036854775808 < i) (h3 : i < 9223372036854775808) : opPow m (.int i) (.int j) = some (.int (i ^ j.toNat)) := if_pos ⟨h, h1, by omega⟩
theorem e_lt : opLt m (.int i) (.int j) = some (.bl (decide (i < j))) := id rfl
theorem e_le : opLe m (.int i) (.int j) = some (.bl (decide (i ≤ j))) := id rfl
theorem e_gt : opGt m (.int i) (.int j) = some (.bl (decide (j < i))) := id rfl
theorem e_ge : opGe m (.int i) (.int j) = some (.bl (decide (j ≤ i))) := id rfl
theorem e_is : opIs m d .non = some (.bl (isNon d)) := id rfl
theorem e_isN : opIsN m d .non = some (.bl (!isNon d)) := id rfl
theorem e_eqI : opEq m (.int i) (.int j) = some (.bl (decide (i = j))) := by
  simp [opEq, eqOk, now, plain, dep, eqB]
  rfl
theorem e_neI : opNe m (.int i) (.int j) = some (.bl (!decide (i = j))) := by
  simp [opNe, eqOk, now, plain, dep, eqB]
  rfl
theorem beqS : (x == y) = decide (x = y) := by
  by_cases h : x = y
  · subst h; simp
  · rw [decide_eq_false h]
    exact beq_eq_false_iff_ne.mpr h
theorem e_eqS : opEq m (.str x) (.str y) = some (.bl (decide (x = y))) := by
  simp [opEq, eqOk, now, plain, dep, eqB, beqS]
theorem e_neS : opNe m (.str x) (.str y) = some (.bl (!decide (x = y))) := by
  simp [opNe, eqOk, now, plain, dep, eqB, beqS]
theorem h_bl : truth m (.bl b) = some b := id rfl
theorem h_int : truth m (.int i) = some (decide (i ≠ 0)) := id rfl
theorem h_non : truth m .non = some false := id rfl
theorem b_bl : isB (.bl b) = some b := id rfl
theorem i_int : isI (.int i) = some i := id rfl
theorem s_str : isS (.str x) = some x := id rfl
theorem l_lst : lstOf m (.lst l) = some l := id rfl
theorem q_lst : seqOf m (.lst l) = some l := id rfl
theorem q_tup : seqOf m (.tup l) = some l := id rfl
def cellL : Option M → Option (List D)
  | some (.lst l) => some l
  | _ => none
theorem c_lst : cellL (some (.lst l)) = some l := id rfl
theorem c_seq {i : Nat} : seqOf m (.cel i) = cellL m[i]? := id rfl
theorem c_lis {i : Nat} : lstOf m (.cel i) = cellL m[i]? := id rfl
theorem x_cel {c : Nat} : opIx m (.cel c) (.int i) = (cellL m[c]?).bind fun l => atI l i := by
  show (match seqOf m (.cel c) with | some l => atI l i | none => none) = _
  rw [c_seq]
  cases cellL m[c]? <;> rfl
theorem x_lst : opIx m (.lst l) (.int i) = atI l i := id rfl
theorem x_tup : opIx m (.tup l) (.int i) = atI l i := id rfl
theorem at_nn {α : Type} {l : List α} (h : 0 ≤ i) : atI l i = l[i.toNat]? := by
  unfold atI ixN
  rw [if_pos h]
  by_cases h2 : i < l.length
  · rw [if_pos h2]; rfl
  · rw [if_neg h2]
    exact (List.getElem?_eq_none (by omega)).symm
theorem ix_in {n : Nat} (h : 0 ≤ i) (h' : i.toNat < n) : ixN n i = some i.toNat := by
  unfold ixN
  rw [if_pos h, if_pos (by omega)]
theorem p_cel {c : Nat} {k : Int} {y : D} : putIx m (.cel c) (.int k) y = (cellL m[c]?).bind fun l => (ixN l.length k).bind fun j => some (m.set c (.lst (l.set j y))) := by
  unfold putIx
  dsimp only
  cases m[c]? with
  | none => rfl
  | some o =>
    cases o <;> first | rfl | skip
    rename_i l
    show (match ixN l.length k with | some j => some (m.set c (.lst (l.set j y))) | none => none) = _
    rw [c_lst, Option.bind_some]
    cases ixN l.length k <;> rfl
theorem e_mulIf {p : Prop} [Decidable p] : opMul m (.int i) (.int (if p then 1 else 0)) = some (.int (i * if p then 1 else 0)) := by
  apply e_mulR <;> split <;> decide
theorem e_mulM {n : Int} (h : 0 < n) (h' : n < 9223372036854775808) : opMul m (.int (i % n)) (.int j) = some (.int (i % n * j)) := by
  have h1 := Int.emod_nonneg i (b := n) (by omega)
  have h2 := Int.emod_lt_of_pos i h
  exact e_mulL (by omega) (by omega)
theorem t_len {d : D} (h : seqOf m d = some l) : bLen m [d] = some (.int l.length) := by
  cases d with
  | str z => cases h
  | _ => unfold bLen; simp only [h]
theorem t_intB : bInt m [.bl b] = some (.int (if b = true then 1 else 0)) := id rfl
/-! what a def hands back -/
def Cln (m : List M) : Prop := ∀ x ∈ m, cleanM 0 x = true
mutual
theorem clean_up {n : Nat} : ∀ d : D, clean 0 d = true → clean n d = true
  | .cel i, h => by unfold clean at h; cases of_decide_eq_true h
  | .tup l, h => by unfold clean at h ⊢; exact cleans_up l h
  | .lst l, h => by unfold clean at h ⊢; exact cleans_up l h
  | .dct ks l, h => by unfold clean at h ⊢; exact cleans_up l h
  | .obj c ns l, h => by unfold clean at h ⊢; exact cleans_up l h
  | .exc c ns l, h => by unfold clean at h; cases h
  | .non, _ => rfl
  | .txt, _ => rfl
  | .bl _, _ => rfl
  | .int _, _ => rfl
  | .str _, _ => rfl
  | .ty _, _ => rfl
  | .glo _, _ => rfl
  | .scr _, _ => rfl
theorem cleans_up {n : Nat} : ∀ l : List D, cleans 0 l = true → cleans n l = true
  | [], _ => rfl
  | d :: l, h => by
    unfold cleans at h ⊢
    have h := Bool.and_eq_true_iff.mp h
    rw [clean_up d h.1, cleans_up l h.2]; rfl
end
def FR (n : Nat) (m : List M) (d : D) (Q : D → List M → Prop) : Prop := clean 0 d = true ∧ Cln m ∧ Q d (m.take n)
theorem cleanM_up {n : Nat} {x : M} (h : cleanM 0 x = true) : cleanM n x = true := by
  cases x <;> first | rfl | exact cleans_up _ h
theorem Cln.all {n k : Nat} (h : Cln m) : (m.take n).all (cleanM k) = true := List.all_eq_true.mpr fun x hx => cleanM_up (h x (List.mem_of_mem_take hx))
theorem Cln.set {i : Nat} {x : M} (h : Cln m) (hx : cleanM 0 x = true) : Cln (m.set i x) := fun y hy => by
  rcases List.mem_or_eq_of_mem_set hy with hy | rfl
  · exact h y hy
  · exact hx
theorem Cln.snoc {x : M} (h : Cln m) (hx : cleanM 0 x = true) : Cln (m ++ [x]) := fun y hy => by
  rcases List.mem_append.mp hy with hy | hy
  · exact h y hy
  · rw [List.mem_singleton.mp hy]; exact hx
theorem wo_fn {nN np : Nat} {body : DS} {ds : List D} {Q : D → List M → Prop} {X : XP} (hn : ds.length = np)
    (h : WS (body (start nN ds) m) (fun _ m' => FR m.length m' .non Q) (fun d m' => FR m.length m' d Q) (fun _ _ => False) (fun _ _ => False) (fun c ns l _ m' => cleans 0 l = true ∧ Cln m' ∧ X c ns l (m'.take m.length)) ⟨⟩) :
    WO (fnG nN np body ds m) Q X ⟨⟩ := by
  unfold fnG
  rw [if_pos hn]
  cases e : body (start nN ds) m with
  | nx e' m' =>
    rw [e] at h
    obtain ⟨h1, h2, h3⟩ := h
    rw [fin_nx h2.all]
    exact h3
  | rt d m' =>
    rw [e] at h
    obtain ⟨h1, h2, h3⟩ := h
    rw [fin_rt (clean_up d h1) h2.all]
    exact h3
  | ex c ns l e' m' =>
    rw [e] at h
    obtain ⟨h1, h2, h3⟩ := h
    rw [fin_ex (cleans_up l h1) h2.all]
    exact h3
  | bk _ _ => rw [e] at h; exact h.elim
  | ct _ _ => rw [e] at h; exact h.elim
  | stuck => rw [e] at h; exact h.elim
/-- a def that hands back a new list -/
theorem wo_fnN {nN np : Nat} {body : DS} {ds : List D} {Q : List D → List M → Prop} {X : XP} (hn : ds.length = np)
    (h : WS (body (start nN ds) m) (fun _ _ => False) (fun d m' => ∃ i l, d = .cel i ∧ m.length ≤ i ∧ m'[i]? = some (.lst l) ∧ cleans 0 l = true ∧ Cln m' ∧ Q l (m'.take m.length)) (fun _ _ => False) (fun _ _ => False) (fun c ns l _ m' => cleans 0 l = true ∧ Cln m' ∧ X c ns l (m'.take m.length)) ⟨⟩) :
    WO (fnN nN np body ds m) Q X ⟨⟩ := by
  unfold fnN
  rw [if_pos hn]
  cases e : body (start nN ds) m with
  | nx e' m' => rw [e] at h; exact h.elim
  | rt d m' =>
    rw [e] at h
    obtain ⟨i, l, rfl, h1, h2, h3, h4, h5⟩ := h
    dsimp only [finN]
    rw [if_pos ⟨h1, h4.all⟩, h2]
    dsimp only
    rw [if_pos (cleans_up l h3)]
    exact h5
  | ex c ns l e' m' =>
    rw [e] at h
    obtain ⟨h1, h2, h3⟩ := h
    dsimp only [finN, finL]
    rw [subs_clean l (cleans_up l h1), subMs_clean _ h2.all]
    exact h3
  | bk _ _ => rw [e] at h; exact h.elim
  | ct _ _ => rw [e] at h; exact h.elim
  | stuck => rw [e] at h; exact h.elim
end
end DL
namespace DL
open PySem PySem.Spec PyProof.Rows L2
section
variable {α β : Type} {X : XP} {N : En → List M → Prop} {R : D → List M → Prop} {B C : En → List M → Prop} {Z : Str → List Str → List D → En → List M → Prop} {ks : Ks N R B C Z} {env : En} {μ : List M}
theorem WS.mono {o : SO} {N' R' B' C' Z'} {k : Ks N R B C Z} (h : WS o N R B C Z k) (n : ∀ e m, N e m → N' e m) (r : ∀ d m, R d m → R' d m) (b : ∀ e m, B e m → B' e m) (c : ∀ e m, C e m → C' e m) (z : ∀ x ns l e m, Z x ns l e m → Z' x ns l e m) : WS o N' R' B' C' Z' ⟨⟩ := by
  cases o with
  | nx e m => exact n e m h
  | rt d m => exact r d m h
  | bk e m => exact b e m h
  | ct e m => exact c e m h
  | ex x ns l e m => exact z x ns l e m h
  | stuck => exact h
/-! while -/
/-! for -/
theorem guard_of {g : List M → Prop} {m : List M} (h : g m) : guard g m = true := by
  unfold guard
  exact @decide_eq_true _ (Classical.propDecidable _) h
theorem s_forGo {g : List M → Prop} {tg : DG} {body : DS} (I : List D → En → List M → Prop) (h0 : ∀ e m, I [] e m → g m ∧ N e m)
    (h1 : ∀ x xs e m, I (x :: xs) e m → g m ∧ OP (tg x e m) (fun e1 => WS (body e1 m) (I xs) R N (I xs) Z ⟨⟩) ⟨⟩) : ∀ (l : List D) (e : En) (m : List M), I l e m → WS (forGo g tg body l e m) N R B C Z ⟨⟩
  | [], e, m, h => by
    obtain ⟨k1, k2⟩ := h0 e m h
    rw [forGo, guard_of k1]
    exact k2
  | x :: xs, e, m, h => by
    obtain ⟨k1, k2⟩ := h1 x xs e m h
    rw [forGo, guard_of k1, if_pos rfl]
    cases e1 : tg x e m with
    | none => rw [e1] at k2; exact k2.elim
    | some e2 =>
      rw [e1] at k2
      have k2 : WS (body e2 m) (I xs) R N (I xs) Z ⟨⟩ := k2
      dsimp only
      cases e3 : body e2 m with
      | nx e4 m4 => rw [e3] at k2; exact s_forGo I h0 h1 xs e4 m4 k2
      | ct e4 m4 => rw [e3] at k2; exact s_forGo I h0 h1 xs e4 m4 k2
      | bk e4 m4 => rw [e3] at k2; exact k2
      | rt d m4 => rw [e3] at k2; exact k2
      | ex c ns l e4 m4 => rw [e3] at k2; exact k2
      | stuck => rw [e3] at k2; exact k2.elim
theorem s_for {di : DI} {tg : DG} {body : DS} : WS (dFor di tg body env μ) N R B C Z ks = WO (di env μ) (fun lg m => WS (forGo lg.2 tg body lg.1 env m) N R B C Z ⟨⟩) (fun c ns l m => Z c ns l env m) ⟨⟩ := by
  unfold dFor
  exact w_bindS
def rngOne : List D → Option Int
  | [.int n] => if -(2 ^ 62) ≤ n ∧ n < 2 ^ 62 then some n else none
  | _ => none
theorem r_one {n : Int} (h : -4611686018427387904 ≤ n) (h' : n < 4611686018427387904) : rngOne [.int n] = some n := by
  dsimp only [rngOne]
  rw [if_pos (by constructor <;> omega)]
theorem i_rng {Q : List D × (List M → Prop) → List M → Prop} {k : Kt Q X} {a : DA} : WO (iRng a env μ) Q X k = WO (a env μ) (fun l m => OP (rngOne l) (fun n => Q (iota 0 n.toNat, fun _ => True) m) ⟨⟩) X ⟨⟩ := by
  unfold iRng
  cases a env μ with
  | ok l m =>
    match l with
    | [.int n] =>
      show WO (if -(2 ^ 62) ≤ n ∧ n < 2 ^ 62 then _ else _) Q X _ = OP (if -(2 ^ 62) ≤ n ∧ n < 2 ^ 62 then some n else none) _ ⟨⟩
      by_cases h : -(2 ^ 62) ≤ n ∧ n < 2 ^ 62
      · rw [if_pos h, if_pos h]; rfl
      · rw [if_neg h, if_neg h]; rfl
    | [] => rfl
    | _ :: _ :: _ => first | rfl | (rename_i x _ _; cases x <;> rfl)
    | [.non] => rfl
    | [.bl _] => rfl
    | [.str _] => rfl
    | [.ty _] => rfl
    | [.glo _] => rfl
    | [.tup _] => rfl
    | [.lst _] => rfl
    | [.dct _ _] => rfl
    | [.obj _ _ _] => rfl
    | [.cel _] => rfl
    | [.scr _] => rfl
    | [.exc _ _ _] => rfl
    | [.txt] => rfl
  | ex _ _ _ _ => rfl
  | stuck => rfl
/-! comprehensions -/
theorem w_lc {di : DI} {tg : DG} {tt : DT} {el : DE} {vs : List Nat} {Q : D → List M → Prop} {k : Kt Q X} : WO (dLcF di tg tt el vs env μ) Q X k = WO (di env μ) (fun lg m => WO (lcGo lg.2 tg tt el (wipeE env vs) lg.1 m []) (fun l m2 => Q (.lst l) m2) X ⟨⟩) X ⟨⟩ := by
  unfold dLcF dLc
  cases di env μ with
  | ok lg m =>
    show WO ((lcGo lg.2 tg tt el (wipeE env vs) lg.1 m []).bind _) Q X _ = _
    rw [w_bind]
    rfl
  | ex _ _ _ _ => rfl
  | stuck => rfl
end
end DL
namespace DL
open PySem PySem.Spec PyProof.Rows L2
section
variable {X : XP} {N : En → List M → Prop} {R : D → List M → Prop} {B C : En → List M → Prop} {Z : Str → List Str → List D → En → List M → Prop} {ks : Ks N R B C Z} {env : En} {μ : List M}
def celI : D → Option Nat
  | .cel i => some i
  | _ => none
theorem g_cel {i : Nat} : celI (.cel i) = some i := id rfl
theorem s_app {a e : DE} : WS (sApp a e env μ) N R B C Z ks = WO (a env μ) (fun x m => OP (celI x) (fun i => OP (cellL m[i]?) (fun _ => WO (e env m) (fun y m2 => OP (cellL m2[i]?) (fun l => l.length < 100000 ∧ N env (m2.set i (.lst (l ++ [y])))) ⟨⟩) (fun c ns l m => Z c ns l env m) ⟨⟩) ⟨⟩) ⟨⟩) (fun c ns l m => Z c ns l env m) ⟨⟩ := by
  unfold sApp
  rw [w_bindS]
  cases a env μ with
  | ok x m =>
    cases x <;> first | rfl | skip
    rename_i i
    show WS (match m[i]? with | some (.lst _) => _ | _ => .stuck) N R B C Z ⟨⟩ = OP (cellL m[i]?) _ ⟨⟩
    cases m[i]? with
    | none => rfl
    | some o =>
      cases o <;> first | rfl | skip
      show WS ((e env m).bindS env _) N R B C Z ⟨⟩ = WO (e env m) _ _ ⟨⟩
      rw [w_bindS]
      cases e env m with
      | ok y m2 =>
        show WS (match m2[i]? with | some (.lst l) => (if l.length < 100000 then .nx env (m2.set i (.lst (l ++ [y]))) else .stuck) | _ => .stuck) N R B C Z ⟨⟩ = OP (cellL m2[i]?) _ ⟨⟩
        cases m2[i]? with
        | none => rfl
        | some o =>
          cases o <;> first | rfl | skip
          rename_i l
          show WS (if l.length < 100000 then .nx env (m2.set i (.lst (l ++ [y]))) else .stuck) N R B C Z ⟨⟩ = (l.length < 100000 ∧ _)
          by_cases h : l.length < 100000
          · rw [if_pos h]; exact propext ⟨fun q => ⟨h, q⟩, fun q => q.2⟩
          · rw [if_neg h]; exact propext ⟨fun q => q.elim, fun q => absurd q.1 h⟩
      | ex _ _ _ _ => rfl
      | stuck => rfl
  | ex _ _ _ _ => rfl
  | stuck => rfl
def rngTwo : List D → Option (Int × Int)
  | [.int a, .int b] => if -(2 ^ 62) ≤ a ∧ a < 2 ^ 62 ∧ -(2 ^ 62) ≤ b ∧ b < 2 ^ 62 then some (a, b) else none
  | _ => none
theorem i_rng2 {Q : List D × (List M → Prop) → List M → Prop} {k : Kt Q X} {a : DA} : WO (iRngTwo a env μ) Q X k = WO (a env μ) (fun l m => OP (rngTwo l) (fun p : Int × Int => Q (iota p.1 (p.2 - p.1).toNat, fun _ => True) m) ⟨⟩) X ⟨⟩ := by
  unfold iRngTwo
  cases a env μ with
  | ok l m =>
    have go : ∀ l : List D, WO (α := List D × (List M → Prop)) (match l with | [.int a, .int b] => (if -(2 ^ 62) ≤ a ∧ a < 2 ^ 62 ∧ -(2 ^ 62) ≤ b ∧ b < 2 ^ 62 then Out.ok (iota a (b - a).toNat, fun _ : List M => True) m else Out.stuck) | _ => Out.stuck) Q X ⟨⟩ = OP (rngTwo l) (fun p : Int × Int => Q (iota p.1 (p.2 - p.1).toNat, fun _ => True) m) ⟨⟩ := by
      intro l
      unfold rngTwo
      split
      · rename_i a b
        by_cases h : -(2 ^ 62) ≤ a ∧ a < 2 ^ 62 ∧ -(2 ^ 62) ≤ b ∧ b < 2 ^ 62
        · rw [if_pos h, if_pos h]; rfl
        · rw [if_neg h, if_neg h]; rfl
      · rfl
    exact go l
  | ex _ _ _ _ => rfl
  | stuck => rfl
end
end DL
namespace DL
open PySem PySem.Spec PyProof.Rows L2
/-! ### x == y, x an object of a class with an own __eq__ -/
section
variable {X : Cx} {S : Sx} {W : WX} {a b e : Expr} {ta tb : TE} {da db d : DE} {pos : Pos} {k : Nat}
abbrev tOwn (K : PySem.W.Frag) (C : Addr) (sp : Sp) (W : WX) (ta tb : TE) : TE := fun σ H Q => ta σ H fun x H1 => tb σ H1 fun y H2 => ∃ p dx fs t, x = .ref p ∧ H2 p = some (.ins C dx fs) ∧ TyX K H2 y t ∧ PySem.W.notFirst K C t = true ∧
      sp [x, y] H2 (fun v H' => ∃ k, v = .bl k ∧ Q v H') (WE W σ)
theorem own_core {C f : Addr} {fd : FuncData} {ps : List Str} {sp : Sp} (F : FnOk X.prog X.w X.K X.mg X.base (L2M.CX md X.prog X.w) k f fd ps sp) (hr : Room k X.A) (tk : L2M.Takes md X W)
    (hs : PySem.W.findIn X.K (.ref C) "__eq__" = some (some (.ref f))) (hf : PySem.W.isFn X.K (.ref f) = true) (hb : Binds X.K fd ps []) {pins : List (Addr × Obj)} {σ : L2.St} {H2 : Hp} {s2 : Shared} {x y : V} {v u : Value} {Q : VK} (I2 : Inv X pins σ H2 s2) (rx : RelV x v) (ry : RelV y u)
    (q : ∃ p dx fs t, x = .ref p ∧ H2 p = some (.ins C dx fs) ∧ TyX X.K H2 y t ∧ PySem.W.notFirst X.K C t = true ∧ sp [x, y] H2 (fun v H' => ∃ k, v = .bl k ∧ Q v H') (WE W σ)) :
    wpAny (model X.prog X.w) X.A (compareOp .Eq v u) (EP X pins σ Q) X.xe s2 := by
  obtain ⟨p, dx, fs, t, rfl, hp, ty, hn, q⟩ := q
  cases rx
  obtain ⟨mA, J, _⟩ := ins_get I2.hok hp
  obtain ⟨od, J, _⟩ := J.look
  obtain ⟨Pp, kx, hP, _⟩ := kit_of I2 ry ty
  show wpAny (model X.prog X.w) X.A (richCompare .Eq (.ref p) u) (EP X pins σ Q) X.xe s2
  obtain ⟨m, hF⟩ := I2.fr
  refine PySem.W.cmp_K (op := .Eq) (tb := t) hr.units0 hF I2.ok.mod.kin J (kx.ty _ _ I2.kIn hP) hn hs hf ?_
  refine wpAny_mono (run_fnSD F hr hb .nil (L2M.passAt tk σ) I2 (vs := [.ref p, y]) (dvs := []) (.cons rfl (.cons ry .nil)) q) (fun w s' hw => ?_) fun _ _ e => e
  obtain ⟨z, H', I', rz, c, rfl, hq⟩ := hw
  have rz : w = .bool c := rz
  subst rz
  exact ⟨.bl c, H', I', rfl, hq⟩
theorem pe_ownEq {C f : Addr} {fd : FuncData} {ps : List Str} {sp : Sp} (F : FnOk X.prog X.w X.K X.mg X.base (L2M.CX md X.prog X.w) k f fd ps sp) (hr : Room k X.A) (tk : L2M.Takes md X W)
    (hs : PySem.W.findIn X.K (.ref C) "__eq__" = some (some (.ref f))) (hf : PySem.W.isFn X.K (.ref f) = true) (hb : Binds X.K fd ps []) (ha : PE X a ta) (hb' : PE X b tb) (hm : behindInMarks .Eq b = false) :
    PE X (.Compare a [.Eq] [b] pos) (tOwn X.K C sp W ta tb) := by
  refine ⟨fun pins s σ H Q I h => ?_⟩
  exact wpAny_Compare1 (binT ha hb' I h fun v u s2 x y H2 I2 rx ry q => own_core F hr tk hs hf hb I2 rx ry q) hm
theorem pt_ownEq {C f : Addr} {fd : FuncData} {ps : List Str} {sp : Sp} (F : FnOk X.prog X.w X.K X.mg X.base (L2M.CX md X.prog X.w) k f fd ps sp) (hr : Room k X.A) (tk : L2M.Takes md X W)
    (hs : PySem.W.findIn X.K (.ref C) "__eq__" = some (some (.ref f))) (hf : PySem.W.isFn X.K (.ref f) = true) (hb : Binds X.K fd ps []) (ha : PE X a ta) (hb' : PE X b tb) (hm : behindInMarks .Eq b = false) :
    PT X (.Compare a [.Eq] [b] pos) (tTest (tOwn X.K C sp W ta tb)) := by
  refine ⟨fun pins s σ H Q I h => ?_⟩
  refine wpAny_isTrue_Compare1 (thn (ha.run pins s σ H _ I h) fun v s1 ⟨x, H1, I1, r1, q1⟩ => thn (hb'.run pins s1 σ H1 _ I1 q1) fun u s2 ⟨y, H2, I2, r2, q2⟩ =>
    thn (own_core F hr tk hs hf hb I2 r1 r2 q2) fun c s3 ⟨z, H3, I3, r3, k, e, q3⟩ => ?_) hm
  subst e
  cases r3
  exact wpAny_truthy_bool ⟨H3, I3, q3⟩
/-- no class of the things that can stand at the right is asked first -/
def NotF (S : Sx) (c : Str) : Prop := ∀ t ∈ tysOf S, PySem.W.notFirst S.K (S.A c) (tyv S t) = true
def dOwn (c : Str) (G : GF) (da db : DE) : DE := fun env μ => (da env μ).bind fun x μ1 => (db env μ1).bind fun y μ2 => if clsAt μ2 x = some c ∧ (tagOf μ2 y).isSome = true then (G [x, y] μ2).bind fun r μ3 => (match r with
  | .bl b => .ok (.bl b) μ3
  | _ => .stuck) else .stuck
theorem own_run {c : Str} {G : GF} (hK : X.K = S.K) (hF : ∀ x ∈ S.cls, InsF S.K (S.A x)) (hN : NotF S c)
    (ka : ∀ env σ c μ Q, SI S c μ → EnvOk S c env σ → EQ S W σ c Q (da env μ) → ta σ c.H Q) (kb : ∀ env σ c μ Q, SI S c μ → EnvOk S c env σ → EQ S W σ c Q (db env μ) → tb σ c.H Q) :
    ∀ env σ c1 μ Q, SI S c1 μ → EnvOk S c1 env σ → EQ S W σ c1 Q (dOwn c G da db env μ) → tOwn X.K (S.A c) (spD (at0 S 0) 2 G) W ta tb σ c1.H Q := by
  intro env σ c1 μ Q I en q
  refine (show ta σ c1.H fun x H1 => tb σ H1 fun y H2 => ∃ p dx fs t, x = .ref p ∧ H2 p = some (.ins (S.A c) dx fs) ∧ TyX X.K H2 y t ∧ PySem.W.notFirst X.K (S.A c) t = true ∧
      spD (at0 S 0) 2 G [x, y] H2 (fun v H' => ∃ k, v = .bl k ∧ Q v H') (WE W σ) from ?_)
  refine bindE (fun Q' => ka env σ c1 μ Q' I en) q fun x μ1 v c2 s1 I1 r1 q1 => ?_
  refine bindE (fun Q' => kb env σ c2 μ1 Q' I1 (en.step s1)) q1 fun y μ2 u c3 s2 I2 r2 q2 => ?_
  by_cases h : clsAt μ2 x = some c ∧ (tagOf μ2 y).isSome = true
  · rw [if_pos h] at q2
    obtain ⟨a, dx, fs, ns, l, rfl, h2, _⟩ := obj_at I2 (s2.rep r1) h.1
    obtain ⟨t, ht⟩ := Option.isSome_iff_exists.mp h.2
    refine ⟨a, dx, fs, tyv S t, rfl, h2, by rw [hK]; exact tag_at hF I2 r2 ht, by rw [hK]; exact hN t (tag_mem I2 r2 ht), ?_⟩
    refine sp_at (l := [x, y]) (vs := [.ref a, u]) I2 (.cons (s2.rep r1) (.cons r2 .nil)) rfl ?_
    cases e : G [x, y] μ2 with
    | ok r μ3 =>
      rw [e] at q2
      intro v' c' s' I' r'
      cases r with
      | bl b => exact ⟨b, rep_bl.mp r', q2 _ c' s' I' r'⟩
      | _ => exact q2.elim
    | ex x' ns' l' μ3 => rw [e] at q2; exact q2
    | stuck => rw [e] at q2; exact q2
  · rw [if_neg h] at q2; exact q2.elim
variable {S0 : Sx} {n : Nat} {kr : Nat} {G : GF} {c : Str}
theorem own_parts (hK : X.K = S0.K) (C : MetD md X.prog X.w X.K X.mg X.base (at0 S0 0) k c "__eq__" 2 G []) (hk : k ≤ kr) :
    ∃ f fd ps, FnOk X.prog X.w X.K X.mg X.base (L2M.CX md X.prog X.w) kr f fd ps (spD (at0 (at0 S0 n) 0) 2 G) ∧ PySem.W.findIn X.K (.ref (S0.A c)) "__eq__" = some (some (.ref f)) ∧ PySem.W.isFn X.K (.ref f) = true ∧ Binds X.K fd ps [] := by
  obtain ⟨f, fd, ps, h1, h3, h4⟩ := C.ex
  obtain ⟨dvs, dV, b1, b2, b3⟩ := (h3 0 (Nat.le_refl _)).ex
  have e := (b3 [] (fun _ => none)).eq_nil
  subst e
  cases b2
  refine ⟨f, fd, ps, h4.mono hk, ?_, ?_, b1⟩
  · rw [hK]; exact h1.meth.at_
  · rw [hK]; exact h1.meth.fn
theorem pd_own (hK : X.K = S0.K) (C : MetD md X.prog X.w X.K X.mg X.base (at0 S0 0) k c "__eq__" 2 G []) (hr : Room kr X.A) (hk : k ≤ kr) (tk : L2M.Takes md X W) (hF : ∀ x ∈ (at0 S0 n).cls, InsF (at0 S0 n).K ((at0 S0 n).A x)) (hN : NotF (at0 S0 n) c)
    (ha : PDE X (at0 S0 n) W a da) (hb : PDE X (at0 S0 n) W b db) (hm : behindInMarks .Eq b = false) : PDE X (at0 S0 n) W (.Compare a [.Eq] [b] pos) (dOwn c G da db) := by
  obtain ⟨f, fd, ps, h1, h2, h3, h4⟩ := own_parts (n := n) hK C hk
  obtain ⟨ta, pa, ka⟩ := ha.ex
  obtain ⟨tb, pb, kb⟩ := hb.ex
  exact ⟨_, pe_ownEq h1 hr tk h2 h3 h4 pa pb hm, own_run (S := at0 S0 n) hK hF hN ka kb⟩
theorem pdt_own (hK : X.K = S0.K) (C : MetD md X.prog X.w X.K X.mg X.base (at0 S0 0) k c "__eq__" 2 G []) (hr : Room kr X.A) (hk : k ≤ kr) (tk : L2M.Takes md X W) (hF : ∀ x ∈ (at0 S0 n).cls, InsF (at0 S0 n).K ((at0 S0 n).A x)) (hN : NotF (at0 S0 n) c)
    (ha : PDE X (at0 S0 n) W a da) (hb : PDE X (at0 S0 n) W b db) (hm : behindInMarks .Eq b = false) : PDT X (at0 S0 n) W (.Compare a [.Eq] [b] pos) (dTst (dOwn c G da db)) := by
  obtain ⟨f, fd, ps, h1, h2, h3, h4⟩ := own_parts (n := n) hK C hk
  obtain ⟨ta, pa, ka⟩ := ha.ex
  obtain ⟨tb, pb, kb⟩ := hb.ex
  refine ⟨_, pt_ownEq h1 hr tk h2 h3 h4 pa pb hm, fun env σ c1 μ Q I en q => ?_⟩
  show tOwn X.K (S0.A c) (spD (at0 (at0 S0 n) 0) 2 G) W ta tb σ c1.H fun x H' => ∃ k, x = .bl k ∧ Q k H'
  refine bindET (fun Q' => own_run (S := at0 S0 n) hK hF hN ka kb env σ c1 μ Q' I en) q fun x μ1 v c2 s1 I1 r1 q1 => ?_
  cases x with
  | bl k => exact ⟨k, rep_bl.mp r1, q1 c2 I1.step I1⟩
  | _ => exact q1.elim
end
end DL
namespace PySem.W
open PySem PySem.Calls PyProof.Rows
section
variable {prog : Program} {w : World} {A : Around} {E : Value → Shared → Prop} {s : Shared} {K : Frag} {x C L f : Addr} {h₀ : Heap} {m : Str → Option Value} {ox : Obj} {od : Option Obj} {b tb : Value}
theorem one_bind (self : Value) : bindSpecial (.builtin "object.__ne__") self = pure (.builtin "object.__ne__", [self]) :=
  (Slot.of (T := "object") (name := "__ne__") (owner := "object") (n := "__ne__") (by rw [typeLookup_type, builtinLookup_eq_fast]; kernel_rfl) (by decide +kernel) (by decide +kernel) (by decide +kernel)
    (.inl (by decide +kernel)) (by rw [isSubtype_type]; kernel_rfl)).bind self
theorem ifBound_KN {M : Model} {args : List Value} {Q : Option Value → Shared → Prop} (X : K.In s.heap) (I : InstAt s.heap x ox C od) (hs : findIn K (.ref C) "__ne__" = some (some (.builtin "object.__ne__")))
    (h : wpAny M A (call (.builtin "object.__ne__") (.ref x :: args)) (fun v => Q (some v)) E s) : wpAny M A (callSpecialIfBound? (.ref x) "__ne__" args) Q E s := by
  simp only [callSpecialIfBound?, bindSpecialIfBound?]
  refine wpAny_holding (wpAny_bind (wpAny_bind (wpAny_bind (I.type.here ((looks_findIn X hs).here ?_)))))
  refine wpAny_bind (wpAny_askSetting (wpAny_ite ?_))
  have fin : wpAny M A (call (.builtin "object.__ne__") ([.ref x] ++ args) >>= fun v => pure (some v)) Q E s := wpAny_bind (wpAny_mono h (fun v s' h' => wpAny_pure h') fun _ _ h' => h')
  split
  · exact wpAny_bind (by rw [one_bind]; exact wpAny_pure (wpAny_pure (by exact fin)))
  · exact wpAny_tryCatch (wpAny_bind (by rw [one_bind]; exact wpAny_pure (wpAny_pure (by exact fin))))
theorem ne_entry_K {A : Around} {Q : Fin → Shared → Prop} (hu : A.units < cLine) (X : K.In s.heap) (I : InstAt s.heap x ox C od) (hs : findIn K (.ref C) "__eq__" = some (some (.ref f))) (hf : isFn K (.ref f) = true)
    (h : wpAny (model prog w) A (call (.ref f) [.ref x, b]) (fun v s' => ∃ k, v = .bool k ∧ Q (.done (.ret (.bool (!k)))) s') E s) : wpAny (model prog w) A (Builtin.«object.__ne__» ⟨[.ref x, b], []⟩) Q E s := by
  unfold Builtin.«object.__ne__»
  repeat (first
    | with_reducible refine wpAny_cRoomFor hu ?_
    | (refine wpAny_bind (m := callSpecialIfBound? (.ref x) (Str.ofString "__eq__") [b])
        (ifBound_K X I hs hf (wpAny_mono h (fun r s' hr => by
          obtain ⟨k, rfl, hq⟩ := hr
          repeat (first | exact hq | exact wpAny_pure hq | exact wpAny_truthy_bool hq | (refine wpAny_bind (m := truthy (.bool _)) (wpAny_truthy_bool ?_)) | wp_step)) fun _ _ e => e)))
    | wp_step)
theorem check_ne_K {M : Model} {Q : Unit → Shared → Prop} (X : K.In s.heap) (I : InstAt s.heap x ox C od) (ho : subIn K (.ref C) (.type "object") = some true) (hq : Q () s) : wpAny M A (checkBuiltinCall "object.__ne__" ⟨[.ref x, b], []⟩) Q E s := by
  simp only [checkBuiltinCall, F.cmpKind_ne, F.cmpSplit_ne]
  refine wpAny_bind ?_
  · unfold isInstance
    refine wpAny_bind (I.type.here ((looks_subIn X ho).here ?_))
    have ha := F.cmpArgs_ne (.ref x) b
    cases hsig : Manifest.signature? "object.__ne__" with
    | none => exact wpAny_pure hq
    | some sig =>
      simp only [argsOk, hsig] at ha
      have h2 : Bind.checkArgs "object.__ne__" sig ⟨[.ref x, b], []⟩ = pure () := ha
      show wpAny M A (Bind.checkArgs "object.__ne__" sig ⟨[.ref x, b], []⟩) Q E _
      rw [h2]; exact wpAny_pure hq
theorem ne_call_K {A : Around} {Q : Value → Shared → Prop} (hu : A.units + 1 < cLine) (X : K.In s.heap) (I : InstAt s.heap x ox C od) (ho : subIn K (.ref C) (.type "object") = some true) (hs : findIn K (.ref C) "__eq__" = some (some (.ref f))) (hf : isFn K (.ref f) = true)
    (h : wpAny (model prog w) A.in1 (call (.ref f) [.ref x, b]) (fun v s' => ∃ k, v = .bool k ∧ Q (.bool (!k)) s') E s) : wpAny (model prog w) A (call (.builtin "object.__ne__") [.ref x, b]) Q E s := by
  have P : Slot "object" "__ne__" "object.__ne__" := Slot.of (T := "object") (name := "__ne__") (owner := "object") (n := "__ne__") (by rw [typeLookup_type, builtinLookup_eq_fast]; kernel_rfl) (by decide +kernel) (by decide +kernel) (by decide +kernel)
    (.inl (by decide +kernel)) (by rw [isSubtype_type]; kernel_rfl)
  refine wpAny_call (codeAny_call_builtin P.plain F.cmpEntry_ne (check_ne_K X I ho (ne_entry_K (A := A.in1) hu X I hs hf (wpAny_mono h (fun v s' hv => ?_) fun _ _ e => e))))
  obtain ⟨k, rfl, hq⟩ := hv
  first | exact ⟨k, rfl, hq⟩ | exact ⟨k, rfl, wpAny_pure hq⟩ | exact ⟨k, rfl, wpAny_pure (wpAny_pure hq)⟩
theorem ne_K {A : Around} {Q : Value → Shared → Prop} (hu : A.units + 1 < cLine) (X : K.In s.heap) (I : InstAt s.heap x ox C od) (hb : Looks (model prog w) s.heap (typeOf b) tb) (hn : notFirst K C tb = true) (ho : subIn K (.ref C) (.type "object") = some true)
    (hne : findIn K (.ref C) "__ne__" = some (some (.builtin "object.__ne__"))) (hs : findIn K (.ref C) "__eq__" = some (some (.ref f))) (hf : isFn K (.ref f) = true)
    (h : wpAny (model prog w) A.in1 (call (.ref f) [.ref x, b]) (fun v s' => ∃ k, v = .bool k ∧ Q (.bool (!k)) s') E s) : wpAny (model prog w) A (richCompare .NotEq (.ref x) b) Q E s := by
  have one : wpAny (model prog w) A (tryCompare (.ref x) "__ne__" b) (fun r s' => ∃ v, r = some v ∧ Q v s') E s := by
    unfold tryCompare
    refine wpAny_bind (ifBound_KN X I hne (ne_call_K hu X I ho hs hf (wpAny_mono h (fun v s' hv => ?_) fun _ _ e => e)))
    obtain ⟨k, rfl, hq⟩ := hv
    exact ⟨k, rfl, wpAny_pure ⟨_, rfl, hq⟩⟩
  unfold richCompare
  simp only [oneThing_ref]
  refine wpAny_holding (wpAny_bind (wpAny_cRoomFor (Nat.lt_of_succ_lt hu) ?_))
  refine wpAny_bind (I.type.here (wpAny_bind (hb.here ?_)))
  split
  · rename_i q
    have e : subIn K tb (.ref C) = some false := by
      rcases Bool.or_eq_true_iff.mp hn with e | e
      · rw [beq_iff_eq.mp e] at q; simp at q
      · exact beq_iff_eq.mp e
    refine wpAny_bind ((looks_subIn X e).here ?_)
    simp only [Bool.false_eq_true, if_false]
    refine wpAny_bind (wpAny_mono one (fun r s' z => ?_) fun _ _ e => e)
    obtain ⟨v, rfl, hq⟩ := z
    exact wpAny_pure hq
  · refine wpAny_bind (wpAny_pure ?_)
    simp only [Bool.false_eq_true, if_false]
    refine wpAny_bind (wpAny_mono one (fun r s' z => ?_) fun _ _ e => e)
    obtain ⟨v, rfl, hq⟩ := z
    exact wpAny_pure hq
end
end PySem.W
namespace DL
open PySem PySem.Spec PyProof.Rows L2
/-! ### x != y, x an object of a class with an own __eq__ and no __ne__ -/
section
variable {X : Cx} {S : Sx} {W : WX} {a b e : Expr} {ta tb : TE} {da db d : DE} {pos : Pos} {k : Nat}
theorem run_in1 {C f : Addr} {fd : FuncData} {ps : List Str} {sp : Sp} (F : FnOk X.prog X.w X.K X.mg X.base (L2M.CX md X.prog X.w) k f fd ps sp) (hr : Room (k + 1) X.A) (tk : L2M.Takes md X W) (hb : Binds X.K fd ps [])
    {pins : List (Addr × Obj)} {σ : L2.St} {H : Hp} {s : Shared} {us : List Value} {vs : List V} {Q : VK} (I : Inv X pins σ H s) (r : Vals vs us) (h : sp vs H Q (WE W σ)) : wpAny (model X.prog X.w) X.A.in1 (call (.ref f) us) (EP X pins σ Q) X.xe s := by
  have hl := F.len _ _ _ _ h
  have e0 : Env0 X.prog X.w X.K X.mg X.base X.A.in1 X.stack s H := by
    have e := I.env0
    exact ⟨e.frames, e.mod, e.bs, e.bsz, e.funs, e.frf, e.hok, e.bare⟩
  refine wpAny_call (codeAny_mono (F.run X.A.in1 X.stack s H ⟨us, []⟩ us vs Q (WE W σ) hr.in1 e0 (by
    have := hb s us I.kIn (by rw [List.append_nil, ← r.length]; exact hl)
    rwa [List.append_nil] at this) r h) fun r s' hq => ?_)
  cases r with
  | error e => exact (L2M.passAt tk σ) pins H s e s' I hq
  | ok fl =>
    cases fl with
    | ret u => exact I.after hq
    | next => exact False.elim hq
    | brk => exact False.elim hq
    | cont => exact False.elim hq
structure NeF (S : Sx) (c : Str) : Prop where
  ne : PySem.W.findIn S.K (.ref (S.A c)) "__ne__" = some (some (.builtin "object.__ne__"))
  ob : PySem.W.subIn S.K (.ref (S.A c)) (.type "object") = some true
theorem ne_core {C f : Addr} {fd : FuncData} {ps : List Str} {sp : Sp} (F : FnOk X.prog X.w X.K X.mg X.base (L2M.CX md X.prog X.w) k f fd ps sp) (hr : Room (k + 1) X.A) (tk : L2M.Takes md X W)
    (hne : PySem.W.findIn X.K (.ref C) "__ne__" = some (some (.builtin "object.__ne__"))) (ho : PySem.W.subIn X.K (.ref C) (.type "object") = some true)
    (hs : PySem.W.findIn X.K (.ref C) "__eq__" = some (some (.ref f))) (hf : PySem.W.isFn X.K (.ref f) = true) (hb : Binds X.K fd ps []) {pins : List (Addr × Obj)} {σ : L2.St} {H2 : Hp} {s2 : Shared} {x y : V} {v u : Value} {Q : VK} (I2 : Inv X pins σ H2 s2) (rx : RelV x v) (ry : RelV y u)
    (q : ∃ p dx fs t, x = .ref p ∧ H2 p = some (.ins C dx fs) ∧ TyX X.K H2 y t ∧ PySem.W.notFirst X.K C t = true ∧ sp [x, y] H2 (fun v H' => ∃ k, v = .bl k ∧ Q (.bl (!k)) H') (WE W σ)) :
    wpAny (model X.prog X.w) X.A (compareOp .NotEq v u) (EP X pins σ Q) X.xe s2 := by
  obtain ⟨p, dx, fs, t, rfl, hp, ty, hn, q⟩ := q
  cases rx
  obtain ⟨mA, J, _⟩ := ins_get I2.hok hp
  obtain ⟨od, J, _⟩ := J.look
  obtain ⟨Pp, kx, hP, _⟩ := kit_of I2 ry ty
  show wpAny (model X.prog X.w) X.A (richCompare .NotEq (.ref p) u) (EP X pins σ Q) X.xe s2
  refine PySem.W.ne_K (tb := t) (by have := hr.un; omega) I2.kIn J (kx.ty _ _ I2.kIn hP) hn ho hne hs hf ?_
  refine wpAny_mono (run_in1 (C := C) F hr tk hb I2 (vs := [.ref p, y]) (.cons rfl (.cons ry .nil)) q) (fun w s' hw => ?_) fun _ _ e => e
  obtain ⟨z, H', I', rz, c, rfl, hq⟩ := hw
  have rz : w = .bool c := rz
  subst rz
  exact ⟨c, rfl, .bl (!c), H', I', rfl, hq⟩
abbrev tNe (K : PySem.W.Frag) (C : Addr) (sp : Sp) (W : WX) (ta tb : TE) : TE := fun σ H Q => ta σ H fun x H1 => tb σ H1 fun y H2 => ∃ p dx fs t, x = .ref p ∧ H2 p = some (.ins C dx fs) ∧ TyX K H2 y t ∧ PySem.W.notFirst K C t = true ∧
      sp [x, y] H2 (fun v H' => ∃ k, v = .bl k ∧ Q (.bl (!k)) H') (WE W σ)
def dNe (c : Str) (G : GF) (da db : DE) : DE := fun env μ => (da env μ).bind fun x μ1 => (db env μ1).bind fun y μ2 => if clsAt μ2 x = some c ∧ (tagOf μ2 y).isSome = true then (G [x, y] μ2).bind fun r μ3 => (match r with
  | .bl b => .ok (.bl (!b)) μ3
  | _ => .stuck) else .stuck
theorem ne_run {c : Str} {G : GF} (hK : X.K = S.K) (hF : ∀ x ∈ S.cls, InsF S.K (S.A x)) (hN : NotF S c)
    (ka : ∀ env σ c μ Q, SI S c μ → EnvOk S c env σ → EQ S W σ c Q (da env μ) → ta σ c.H Q) (kb : ∀ env σ c μ Q, SI S c μ → EnvOk S c env σ → EQ S W σ c Q (db env μ) → tb σ c.H Q) :
    ∀ env σ c1 μ Q, SI S c1 μ → EnvOk S c1 env σ → EQ S W σ c1 Q (dNe c G da db env μ) → tNe X.K (S.A c) (spD (at0 S 0) 2 G) W ta tb σ c1.H Q := by
  intro env σ c1 μ Q I en q
  refine (show ta σ c1.H fun x H1 => tb σ H1 fun y H2 => ∃ p dx fs t, x = .ref p ∧ H2 p = some (.ins (S.A c) dx fs) ∧ TyX X.K H2 y t ∧ PySem.W.notFirst X.K (S.A c) t = true ∧
      spD (at0 S 0) 2 G [x, y] H2 (fun v H' => ∃ k, v = .bl k ∧ Q (.bl (!k)) H') (WE W σ) from ?_)
  refine bindE (fun Q' => ka env σ c1 μ Q' I en) q fun x μ1 v c2 s1 I1 r1 q1 => ?_
  refine bindE (fun Q' => kb env σ c2 μ1 Q' I1 (en.step s1)) q1 fun y μ2 u c3 s2 I2 r2 q2 => ?_
  by_cases h : clsAt μ2 x = some c ∧ (tagOf μ2 y).isSome = true
  · rw [if_pos h] at q2
    obtain ⟨a, dx, fs, ns, l, rfl, h2, _⟩ := obj_at I2 (s2.rep r1) h.1
    obtain ⟨t, ht⟩ := Option.isSome_iff_exists.mp h.2
    refine ⟨a, dx, fs, tyv S t, rfl, h2, by rw [hK]; exact tag_at hF I2 r2 ht, by rw [hK]; exact hN t (tag_mem I2 r2 ht), ?_⟩
    refine sp_at (l := [x, y]) (vs := [.ref a, u]) I2 (.cons (s2.rep r1) (.cons r2 .nil)) rfl ?_
    cases e : G [x, y] μ2 with
    | ok r μ3 =>
      rw [e] at q2
      intro v' c' s' I' r'
      cases r with
      | bl b => exact ⟨b, rep_bl.mp r', q2 _ c' s' I' (rep_bl.mpr rfl)⟩
      | _ => exact q2.elim
    | ex x' ns' l' μ3 => rw [e] at q2; exact q2
    | stuck => rw [e] at q2; exact q2
  · rw [if_neg h] at q2; exact q2.elim
variable {S0 : Sx} {n : Nat} {kr : Nat} {G : GF} {c : Str}
theorem pd_ne (hK : X.K = S0.K) (C : MetD md X.prog X.w X.K X.mg X.base (at0 S0 0) k c "__eq__" 2 G []) (hr : Room kr X.A) (hk : k + 1 ≤ kr) (tk : L2M.Takes md X W) (hF : ∀ x ∈ (at0 S0 n).cls, InsF (at0 S0 n).K ((at0 S0 n).A x)) (hN : NotF (at0 S0 n) c) (hE : NeF (at0 S0 n) c)
    (ha : PDE X (at0 S0 n) W a da) (hb : PDE X (at0 S0 n) W b db) (hm : behindInMarks .NotEq b = false) : PDE X (at0 S0 n) W (.Compare a [.NotEq] [b] pos) (dNe c G da db) := by
  obtain ⟨f, fd, ps, h1, h2, h3, h4⟩ := own_parts (n := n) hK C (Nat.le_refl k)
  obtain ⟨ta, pa, ka⟩ := ha.ex
  obtain ⟨tb, pb, kb⟩ := hb.ex
  have e1 : PySem.W.findIn X.K (.ref (S0.A c)) "__ne__" = some (some (.builtin "object.__ne__")) := by rw [hK]; exact hE.ne
  have e2 : PySem.W.subIn X.K (.ref (S0.A c)) (.type "object") = some true := by rw [hK]; exact hE.ob
  refine ⟨_, ⟨fun pins s σ H Q I h => ?_⟩, ne_run (S := at0 S0 n) hK hF hN ka kb⟩
  exact wpAny_Compare1 (binT pa pb I h fun v u s2 x y H2 I2 rx ry q => ne_core h1 (hr.mono hk) tk e1 e2 h2 h3 h4 I2 rx ry q) hm
theorem pdt_ne (hK : X.K = S0.K) (C : MetD md X.prog X.w X.K X.mg X.base (at0 S0 0) k c "__eq__" 2 G []) (hr : Room kr X.A) (hk : k + 1 ≤ kr) (tk : L2M.Takes md X W) (hF : ∀ x ∈ (at0 S0 n).cls, InsF (at0 S0 n).K ((at0 S0 n).A x)) (hN : NotF (at0 S0 n) c) (hE : NeF (at0 S0 n) c)
    (ha : PDE X (at0 S0 n) W a da) (hb : PDE X (at0 S0 n) W b db) (hm : behindInMarks .NotEq b = false) : PDT X (at0 S0 n) W (.Compare a [.NotEq] [b] pos) (dTst (dNe c G da db)) := by
  obtain ⟨f, fd, ps, h1, h2, h3, h4⟩ := own_parts (n := n) hK C (Nat.le_refl k)
  obtain ⟨ta, pa, ka⟩ := ha.ex
  obtain ⟨tb, pb, kb⟩ := hb.ex
  have e1 : PySem.W.findIn X.K (.ref (S0.A c)) "__ne__" = some (some (.builtin "object.__ne__")) := by rw [hK]; exact hE.ne
  have e2 : PySem.W.subIn X.K (.ref (S0.A c)) (.type "object") = some true := by rw [hK]; exact hE.ob
  refine ⟨tTest (tNe X.K (S0.A c) (spD (at0 (at0 S0 n) 0) 2 G) W ta tb), ⟨fun pins s σ H Q I h => ?_⟩, fun env σ c1 μ Q I en q => ?_⟩
  · refine wpAny_isTrue_Compare1 (thn (pa.run pins s σ H _ I h) fun v s1 ⟨x, H1, I1, r1, q1⟩ => thn (pb.run pins s1 σ H1 _ I1 q1) fun u s2 ⟨y, H2, I2, r2, q2⟩ =>
      thn (ne_core (Q := fun x H' => ∃ k, x = .bl k ∧ Q k H') h1 (hr.mono hk) tk e1 e2 h2 h3 h4 I2 r1 r2 q2) fun c s3 ⟨z, H3, I3, r3, k, e, q3⟩ => ?_) hm
    subst e
    cases r3
    exact wpAny_truthy_bool ⟨H3, I3, q3⟩
  · show tNe X.K (S0.A c) (spD (at0 (at0 S0 n) 0) 2 G) W ta tb σ c1.H fun x H' => ∃ k, x = .bl k ∧ Q k H'
    refine bindET (fun Q' => ne_run (S := at0 S0 n) hK hF hN ka kb env σ c1 μ Q' I en) q fun x μ1 v c2 s1 I1 r1 q1 => ?_
    cases x with
    | bl k => exact ⟨k, rep_bl.mp r1, q1 c2 I1.step I1⟩
    | _ => exact q1.elim
end
end DL
namespace DL
open PySem PySem.Spec PyProof.Rows L2
/-! ### makings with keywords -/
def pick {α : Type} (idx : List Nat) (xs : List α) : List α := idx.filterMap fun i => xs[i]?
theorem vals_get {xs : List V} {us : List Value} (r : Vals xs us) (i : Nat) : (∃ x u, xs[i]? = some x ∧ us[i]? = some u ∧ RelV x u) ∨ (xs[i]? = none ∧ us[i]? = none) := by
  induction r generalizing i with
  | nil => exact .inr ⟨rfl, rfl⟩
  | cons h t ih =>
    cases i with
    | zero => exact .inl ⟨_, _, rfl, rfl, h⟩
    | succ i => exact ih i
theorem vals_pick {xs : List V} {us : List Value} (r : Vals xs us) : ∀ idx : List Nat, Vals (pick idx xs) (pick idx us)
  | [] => .nil
  | i :: idx => by
    have t := vals_pick r idx
    unfold pick at t ⊢
    rw [List.filterMap_cons, List.filterMap_cons]
    rcases vals_get r i with ⟨x, u, h1, h2, h3⟩ | ⟨h1, h2⟩
    · rw [h1, h2]; exact .cons h3 t
    · rw [h1, h2]; exact t
theorem reps_get {S : Sx} {io : List Addr} {F : Hp} : ∀ (l : List D) {xs : List V} (r : reps S io F l xs) (i : Nat), (∃ d x, l[i]? = some d ∧ xs[i]? = some x ∧ rep S io F d x) ∨ (l[i]? = none ∧ xs[i]? = none)
  | [], _, r, i => by rw [r.eq_nil]; exact .inr ⟨rfl, rfl⟩
  | d :: l, _, r, i => by
    obtain ⟨x, q, rfl, r1, r2⟩ := r.uncons
    cases i with
    | zero => exact .inl ⟨_, _, rfl, rfl, r1⟩
    | succ i => exact reps_get l r2 i
theorem reps_pick {S : Sx} {io : List Addr} {F : Hp} {l : List D} {xs : List V} (r : reps S io F l xs) : ∀ idx : List Nat, reps S io F (pick idx l) (pick idx xs)
  | [] => .nil
  | i :: idx => by
    have t := reps_pick r idx
    unfold pick at t ⊢
    rw [List.filterMap_cons, List.filterMap_cons]
    rcases reps_get l r i with ⟨x, u, h1, h2, h3⟩ | ⟨h1, h2⟩
    · rw [h1, h2]; exact .cons h3 t
    · rw [h1, h2]; exact t
structure PDK (X : Cx) (S : Sx) (W : WX) (kws : List Keyword) (d : DA) : Prop where
  ex : ∃ t, PK X kws t ∧ ∀ env σ c μ Q, SI S c μ → EnvOk S c env σ → AQ S W σ c Q (d env μ) → t σ c.H Q
section
variable {X : Cx} {S : Sx} {W : WX} {a b e : Expr} {es : List Expr} {da db d : DE} {ds dk : DA} {pos p kpos : Pos} {k : Nat} {nm : Option Str} {kws : List Keyword} {f : Addr} {fd : FuncData} {ps ks : List Str} {np n : Nat} {G : GF} {dd : List D} {idx : List Nat}
theorem pdk_nil : PDK X S W [] aNil := by
  obtain ⟨t, pa, ka⟩ := (pda_nil (X := X) (S := S) (W := W)).ex
  exact ⟨tNil, pk_nil, fun env σ c μ Q I en q => q [] c I.step I .nil⟩
theorem pdk_cons (ha : PDE X S W e d) (hr : PDK X S W kws dk) : PDK X S W (⟨nm, e, kpos⟩ :: kws) (aCons d dk) := by
  obtain ⟨te, pe, ke⟩ := ha.ex
  obtain ⟨t, pt, kt⟩ := hr.ex
  refine ⟨_, pk_cons pe pt, fun env σ c μ Q I en q => ?_⟩
  refine (show te σ c.H fun x H1 => t σ H1 fun xs H2 => Q (x :: xs) H2 from ?_)
  refine bindEA (fun Q' => ke env σ c μ Q' I en) q fun x μ1 v c1 s1 I1 r1 q1 => ?_
  refine bindAA (fun Q' => kt env σ c1 μ1 Q' I1 (en.step s1)) q1 fun l μ2 vs c2 s2 I2 r2 q2 => ?_
  exact q2 _ c2 I2.step I2 (.cons (s2.rep r1) r2)
/-- how a making's call with keywords binds -/
structure KwM (S : Sx) (K : PySem.W.Frag) (fd : FuncData) (ps : List Str) (n : Nat) (ks : List Str) (idx : List Nat) (dd : List D) : Prop where
  ex : ∃ (dvs : List V) (its : List Value), Vals dvs its ∧ (∀ io F, reps S io F dd dvs) ∧ ∀ (s : Shared) (self : Value) (us ws : List Value), K.In s.heap → us.length = n → ws.length = ks.length →
    BindsTo s fd ⟨self :: us, ks.zip ws⟩ (ps.zip (self :: pick idx (us ++ (ws ++ its))))
def aPick (n m : Nat) (idx : List Nat) (dd : List D) (ds dk : DA) : DA := fun env μ => (ds env μ).bind fun l μ1 => (dk env μ1).bind fun z μ2 => if l.length = n ∧ z.length = m then .ok (pick idx (l ++ (z ++ dd))) μ2 else .stuck
theorem out_assoc {α β γ : Type} (o : Out α) (f : α → List M → Out β) (g : β → List M → Out γ) : (o.bind f).bind g = o.bind fun x m => (f x m).bind g := by cases o <;> rfl
theorem pd_mkK {c : Str} (hK : X.K = S.K) (hM : MkF S c f) (F : FnOk X.prog X.w X.K X.mg X.base (L2M.CX md X.prog X.w) k f fd ps (spD (at0 S 0) np G)) (hr : Room (k + 1) X.A) (tk : L2M.Takes md X W) (hg : Gl X c) (hm : X.mg c = some (.ref (S.A c))) (hb : KwM S X.K fd ps n ks idx dd)
    (ha : PDA X S W (e :: es) ds) (hkw : PDK X S W kws dk) (hall : (backToKw pos (keywordEach kws X.env)).all (·.1.isSome) = true := by rfl) (hks : (backToKw pos (keywordEach kws X.env)).filterMap (·.1) = ks := by rfl)
    (hdb : (c == ("__debug__" : Str)) = false := by decide) (he : starEach (e :: es) X.env = (false, eval e X.env) :: starEach es X.env := by rfl)
    (hpl : ((backTo pos (starEach (e :: es) X.env)).any (·.1) || (backToKw pos (keywordEach kws X.env)).any (·.1.isNone)) = false := by rfl) :
    PDE X S W (.Call (.Name c p) (e :: es) kws pos) (dMake c np G [] (aPick n ks.length idx dd ds dk)) := by
  obtain ⟨t, pa, ka⟩ := ha.ex
  obtain ⟨tq, pq, kq⟩ := hkw.ex
  obtain ⟨dvs, its, h1, h2, h3⟩ := hb.ex
  refine ⟨fun σ H Q => t σ H fun vs H1 => tq σ H1 fun zs H2 => vs.length = n ∧ zs.length = ks.length ∧ ∀ x dx, H2 x = none → H2 dx = none → dx ≠ x → spD (at0 S 0) np G (.ref x :: pick idx (vs ++ (zs ++ dvs))) (upd (upd H2 dx (.own x)) x (.ins (S.A c) dx [])) (fun v H2 => v = .non ∧ Q (.ref x) H2) (WE W σ),
    ⟨fun pins s σ H Q I h => ?_⟩, fun env σ c1 μ Q I en q => ?_⟩
  · refine wpAny_Call_Name_kw (ld_glob I hg hm ?_ hdb)
    have kc : PySem.W.keepIn X.K (.ref (S.A c)) = true := by rw [hK]; exact hM.mke.kp
    have M1 : Mk X.K (S.A c) f := by rw [hK]; exact hM.mke
    refine PySem.W.callWith_KW (h₀ := X.base) I.ok.mod.kin kc hall (thn (pa.run pos pins s σ H _ I h) fun us s1 ⟨vs, H1, I1, r, q⟩ => ?_) hpl he
    refine thn (pq.run pos pins s1 σ H1 _ I1 q) fun ws s2 ⟨zs, H2, I2, rz, l1, l2, q2⟩ => ⟨I2.kIn, ?_⟩
    rw [hks]
    refine make_go (bs := pick idx (us ++ (ws ++ its))) M1 F hr (fun s3 self k2 l3 => h3 s3 self us ws k2 (r.length.symm.trans l1) (rz.length.symm.trans l2)) (L2M.passAt tk σ) I2 (vals_pick (r.append (rz.append h1)) idx) q2
  · refine (show t σ c1.H fun vs H1 => tq σ H1 fun zs H2 => vs.length = n ∧ zs.length = ks.length ∧ ∀ x dx, H2 x = none → H2 dx = none → dx ≠ x → spD (at0 S 0) np G (.ref x :: pick idx (vs ++ (zs ++ dvs))) (upd (upd H2 dx (.own x)) x (.ins (S.A c) dx [])) (fun v H2 => v = .non ∧ Q (.ref x) H2) (WE W σ) from ?_)
    unfold dMake aPick at q
    rw [out_assoc] at q
    refine bindAE (fun Q' => ka env σ c1 μ Q' I en) q fun l μ1 vs c2 s1 I1 r1 q1 => ?_
    rw [out_assoc] at q1
    refine bindAE (fun Q' => kq env σ c2 μ1 Q' I1 (en.step s1)) q1 fun z μ2 zs c3 s2 I2 r2 q2 => ?_
    by_cases hl : l.length = n ∧ z.length = ks.length
    · rw [if_pos hl] at q2
      refine ⟨by rw [← r1.len]; exact hl.1, by rw [← r2.len]; exact hl.2, fun x dx hx hdx hne => ?_⟩
      have q2 : EQ S W σ c3 Q (if (pick idx (l ++ (z ++ dd)) ++ []).length + 1 = np then _ else _) := q2
      rw [List.append_nil] at q2
      by_cases hn : (pick idx (l ++ (z ++ dd))).length + 1 = np
      · rw [if_pos hn] at q2
        exact make_sp hM.mem I2 (reps_pick ((s2.reps r1).append (r2.append (h2 _ _))) idx) hn hx hdx hne q2
      · rw [if_neg hn] at q2; exact False.elim q2
    · rw [if_neg hl] at q2; exact False.elim q2
theorem pd_mkK0 {c : Str} (hK : X.K = S.K) (hM : MkF S c f) (F : FnOk X.prog X.w X.K X.mg X.base (L2M.CX md X.prog X.w) k f fd ps (spD (at0 S 0) np G)) (hr : Room (k + 1) X.A) (tk : L2M.Takes md X W) (hg : Gl X c) (hm : X.mg c = some (.ref (S.A c))) (hb : KwM S X.K fd ps 0 ks idx dd)
    (hkw : PDK X S W kws dk) (hall : (backToKw pos (keywordEach kws X.env)).all (·.1.isSome) = true := by rfl) (hks : (backToKw pos (keywordEach kws X.env)).filterMap (·.1) = ks := by rfl)
    (hdb : (c == ("__debug__" : Str)) = false := by decide)
    (hpl : ((backTo pos (starEach [] X.env)).any (·.1) || (backToKw pos (keywordEach kws X.env)).any (·.1.isNone)) = false := by rfl) :
    PDE X S W (.Call (.Name c p) [] kws pos) (dMake c np G [] (aPick 0 ks.length idx dd aNil dk)) := by
  obtain ⟨tq, pq, kq⟩ := hkw.ex
  obtain ⟨dvs, its, h1, h2, h3⟩ := hb.ex
  refine ⟨fun σ H Q => tq σ H fun zs H2 => zs.length = ks.length ∧ ∀ x dx, H2 x = none → H2 dx = none → dx ≠ x → spD (at0 S 0) np G (.ref x :: pick idx (zs ++ dvs)) (upd (upd H2 dx (.own x)) x (.ins (S.A c) dx [])) (fun v H2 => v = .non ∧ Q (.ref x) H2) (WE W σ),
    ⟨fun pins s σ H Q I h => ?_⟩, fun env σ c1 μ Q I en q => ?_⟩
  · refine wpAny_Call_Name_kw (ld_glob I hg hm ?_ hdb)
    have kc : PySem.W.keepIn X.K (.ref (S.A c)) = true := by rw [hK]; exact hM.mke.kp
    have M1 : Mk X.K (S.A c) f := by rw [hK]; exact hM.mke
    refine PySem.W.callWith_KW0 (h₀ := X.base) I.ok.mod.kin kc hall (thn (pq.run pos pins s σ H _ I h) fun ws s2 ⟨zs, H2, I2, rz, l2, q2⟩ => ⟨I2.kIn, ?_⟩) hpl
    rw [hks]
    refine make_go (bs := pick idx ([] ++ (ws ++ its))) M1 F hr (fun s3 self k2 l3 => h3 s3 self [] ws k2 rfl (rz.length.symm.trans l2)) (L2M.passAt tk σ) I2 (vals_pick (rz.append h1) idx) q2
  · refine (show tq σ c1.H fun zs H2 => zs.length = ks.length ∧ ∀ x dx, H2 x = none → H2 dx = none → dx ≠ x → spD (at0 S 0) np G (.ref x :: pick idx (zs ++ dvs)) (upd (upd H2 dx (.own x)) x (.ins (S.A c) dx [])) (fun v H2 => v = .non ∧ Q (.ref x) H2) (WE W σ) from ?_)
    unfold dMake aPick at q
    have q : EQ S W σ c1 Q (((dk env μ).bind fun z μ2 => if ([] : List D).length = 0 ∧ z.length = ks.length then Out.ok (pick idx ([] ++ (z ++ dd))) μ2 else .stuck).bind _) := q
    rw [out_assoc] at q
    refine bindAE (fun Q' => kq env σ c1 μ Q' I en) q fun z μ2 zs c3 s2 I2 r2 q2 => ?_
    by_cases hl : ([] : List D).length = 0 ∧ z.length = ks.length
    · rw [if_pos hl] at q2
      refine ⟨by rw [← r2.len]; exact hl.2, fun x dx hx hdx hne => ?_⟩
      have q2 : EQ S W σ c3 Q (if (pick idx (z ++ dd) ++ []).length + 1 = np then _ else _) := q2
      rw [List.append_nil] at q2
      by_cases hn : (pick idx (z ++ dd)).length + 1 = np
      · rw [if_pos hn] at q2
        have e0 : pick idx (([] : List D) ++ (z ++ dd)) ++ [] = pick idx (z ++ dd) := List.append_nil _
        rw [e0] at q2
        exact make_sp hM.mem I2 (reps_pick (r2.append (h2 _ _)) idx) hn hx hdx hne q2
      · rw [if_neg hn] at q2; exact False.elim q2
    · rw [if_neg hl] at q2; exact False.elim q2
end
end DL
namespace DL
open PySem PySem.Spec PyProof.Rows L2
/-! ### str(x), repr(x), f'{x}' of an object whose class says how -/
section
variable {X : Cx} {S : Sx} {W : WX} {a b e : Expr} {ta tb : TE} {da db d : DE} {pos p : Pos} {k : Nat} {C f : Addr} {fd : FuncData} {ps : List Str} {sp : Sp}
theorem run_atA {A' : Around} (hfr : A'.frames = X.A.frames) (F : FnOk X.prog X.w X.K X.mg X.base (L2M.CX md X.prog X.w) k f fd ps sp) (hr : Room k A') (tk : L2M.Takes md X W) (hb : Binds X.K fd ps [])
    {pins : List (Addr × Obj)} {σ : L2.St} {H : Hp} {s : Shared} {us : List Value} {vs : List V} {Q : VK} (I : Inv X pins σ H s) (r : Vals vs us) (h : sp vs H Q (WE W σ)) : wpAny (model X.prog X.w) A' (call (.ref f) us) (EP X pins σ Q) X.xe s := by
  have hl := F.len _ _ _ _ h
  have e0 : Env0 X.prog X.w X.K X.mg X.base A' X.stack s H := by
    have e := I.env0
    exact ⟨hfr.trans e.frames, e.mod, e.bs, e.bsz, e.funs, e.frf, e.hok, e.bare⟩
  refine wpAny_call (codeAny_mono (F.run A' X.stack s H ⟨us, []⟩ us vs Q (WE W σ) hr e0 (by
    have := hb s us I.kIn (by rw [List.append_nil, ← r.length]; exact hl)
    rwa [List.append_nil] at this) r h) fun r s' hq => ?_)
  cases r with
  | error e => exact (L2M.passAt tk σ) pins H s e s' I hq
  | ok fl =>
    cases fl with
    | ret u => exact I.after hq
    | next => exact False.elim hq
    | brk => exact False.elim hq
    | cont => exact False.elim hq
theorem repr_core (F : FnOk X.prog X.w X.K X.mg X.base (L2M.CX md X.prog X.w) k f fd ps sp) (hr : Room (k + 2) X.A) (tk : L2M.Takes md X W) (hs : PySem.W.findIn X.K (.ref C) "__repr__" = some (some (.ref f))) (hf : PySem.W.isFn X.K (.ref f) = true) (hb : Binds X.K fd ps [])
    {pins : List (Addr × Obj)} {σ : L2.St} {H : Hp} {s : Shared} {q dx : Addr} {fs : List (Str × V)} {Q : VK} (I : Inv X pins σ H s) (hp : H q = some (.ins C dx fs)) (h : sp [.ref q] H (fun v H' => ∃ z, v = .str z ∧ Q v H') (WE W σ)) :
    wpAny (model X.prog X.w) X.A (call (.builtin "repr") [.ref q]) (EP X pins σ Q) X.xe s := by
  obtain ⟨mA, J, _⟩ := ins_get I.hok hp
  obtain ⟨od, J, _⟩ := J.look
  obtain ⟨m, hF⟩ := I.fr
  refine PySem.W.repr_K (hr.in1.units0) hF I.ok.mod.kin J hs hf ?_
  refine wpAny_mono (run_atA (A' := X.A.in1) rfl F (hr.in1.mono (Nat.le_succ _)) tk hb I (vs := [.ref q]) (.cons rfl .nil) h) (fun w s' hw => ?_) fun _ _ e => e
  obtain ⟨z, H', I', rz, y, rfl, hq⟩ := hw
  obtain ⟨t, rfl⟩ := rz
  exact ⟨.str y, H', I', ⟨t, rfl⟩, hq⟩
abbrev tObS (C : Addr) (sp : Sp) (W : WX) (ta : TE) : TE := fun σ H Q => ta σ H fun x H1 => ∃ q dx fs, [x] = [V.ref q] ∧ H1 q = some (.ins C dx fs) ∧ sp [x] H1 (fun v H' => ∃ z, v = .str z ∧ Q v H') (WE W σ)
def dObS (c : Str) (G : GF) (da : DE) : DE := fun env μ => (da env μ).bind fun x μ1 => if clsAt μ1 x = some c then (G [x] μ1).bind fun r μ2 => (match r with
  | .str z => .ok (.str z) μ2
  | _ => .stuck) else .stuck
theorem obs_run {c : Str} {G : GF} (ka : ∀ env σ c μ Q, SI S c μ → EnvOk S c env σ → EQ S W σ c Q (da env μ) → ta σ c.H Q) :
    ∀ env σ c1 μ Q, SI S c1 μ → EnvOk S c1 env σ → EQ S W σ c1 Q (dObS c G da env μ) → tObS (S.A c) (spD (at0 S 0) 1 G) W ta σ c1.H Q := by
  intro env σ c1 μ Q I en q
  refine (show ta σ c1.H fun x H1 => ∃ q dx fs, [x] = [V.ref q] ∧ H1 q = some (.ins (S.A c) dx fs) ∧ spD (at0 S 0) 1 G [x] H1 (fun v H' => ∃ z, v = .str z ∧ Q v H') (WE W σ) from ?_)
  refine bindE (fun Q' => ka env σ c1 μ Q' I en) q fun x μ1 v c2 s1 I1 r1 q1 => ?_
  by_cases h : clsAt μ1 x = some c
  · rw [if_pos h] at q1
    obtain ⟨a, dx, fs, ns, l, rfl, h2, _⟩ := obj_at I1 r1 h
    refine ⟨a, dx, fs, rfl, h2, sp_at (l := [x]) (vs := [.ref a]) I1 (.cons r1 .nil) rfl ?_⟩
    cases e : G [x] μ1 with
    | ok r μ3 =>
      rw [e] at q1
      intro v' c' s' I' r'
      cases r with
      | str z => exact ⟨z, (rep_str.mp r').1, q1 _ c' s' I' r'⟩
      | _ => exact q1.elim
    | ex x' ns' l' μ3 => rw [e] at q1; exact q1
    | stuck => rw [e] at q1; exact q1
  · rw [if_neg h] at q1; exact q1.elim
variable {S0 : Sx} {n : Nat} {kr : Nat} {G : GF} {c : Str}
theorem met_parts {m : Str} {np : Nat} (hK : X.K = S0.K) (C : MetD md X.prog X.w X.K X.mg X.base (at0 S0 0) k c m np G []) (hk : k ≤ kr) :
    ∃ f fd ps, FnOk X.prog X.w X.K X.mg X.base (L2M.CX md X.prog X.w) kr f fd ps (spD (at0 (at0 S0 n) 0) np G) ∧ PySem.W.findIn X.K (.ref (S0.A c)) m = some (some (.ref f)) ∧ PySem.W.isFn X.K (.ref f) = true ∧ Binds X.K fd ps [] := by
  obtain ⟨f, fd, ps, h1, h3, h4⟩ := C.ex
  obtain ⟨dvs, dV, b1, b2, b3⟩ := (h3 0 (Nat.le_refl _)).ex
  have e := (b3 [] (fun _ => none)).eq_nil
  subst e
  cases b2
  refine ⟨f, fd, ps, h4.mono hk, ?_, ?_, b1⟩
  · rw [hK]; exact h1.meth.at_
  · rw [hK]; exact h1.meth.fn
theorem pd_reprO (hK : X.K = S0.K) (C : MetD md X.prog X.w X.K X.mg X.base (at0 S0 0) k c "__repr__" 1 G []) (hr : Room kr X.A) (hk : k + 2 ≤ kr) (tk : L2M.Takes md X W) (hg : Gl X "repr") (hm : X.mg "repr" = none)
    (ha : PDE X (at0 S0 n) W a da) (he : starEach [a] X.env = (false, eval a X.env) :: starEach [] X.env := by rfl) (hpl : (backTo pos (starEach [] X.env)).any (·.1) = false := by rfl) : PDE X (at0 S0 n) W (.Call (.Name "repr" p) [a] [] pos) (dObS c G da) := by
  obtain ⟨f, fd, ps, h1, h2, h3, h4⟩ := met_parts (n := n) hK C (Nat.le_refl k)
  obtain ⟨ta, pa, ka⟩ := ha.ex
  refine ⟨_, ⟨fun pins s σ H Q I h => ?_⟩, obs_run (S := at0 S0 n) ka⟩
  refine wpAny_Call_Name_kw (ld_blt I hg hm boot_repr ?_ (by decide) (by decide))
  refine PyProof.Rows.callWith_builtin1 (thn ((pa_cons pa pa_nil he).run pos pins s σ H (fun vs H1 => ∃ q dx fs, vs = [V.ref q] ∧ H1 q = some (.ins (S0.A c) dx fs) ∧ spD (at0 (at0 S0 n) 0) 1 G vs H1 (fun v H' => ∃ z, v = .str z ∧ Q v H') (WE W σ)) I h) fun us s1 ⟨vs, H1, I1, r1, q, dx, fs, e, hq, q1⟩ => ?_) he hpl
  subst e
  cases r1 with
  | cons r0 r1 =>
    cases r1
    cases r0
    exact repr_core h1 (hr.mono hk) tk h2 h3 h4 I1 hq q1
/-! f'{x}' of a text, an int, None -/
def fmtS : D → Option Str
  | .str z => if z.length ≤ 100000 then some z else none
  | .int i => if i.natAbs.log2 < 1920 then some (toString i) else none
  | .non => some "None"
  | _ => none
def dFmt (da : DE) : DE := fun env μ => (da env μ).bind fun x μ1 => match fmtS x with
  | some z => .ok (.str z) μ1
  | none => .stuck
theorem pd_fmt (ha : PDE X S W a da) : PDE X S W (.FormattedValue a (-1) none pos) (dFmt da) := by
  obtain ⟨ta, pa, ka⟩ := ha.ex
  refine ⟨fun σ H Q => ta σ H fun x H1 => (∃ y : Str, x = .str y ∧ y.length ≤ sizeLine ∧ Q (.str y) H1) ∨ (∃ i : Int, x = .int i ∧ i.natAbs.log2 < 1920 ∧ Q (.str (toString i)) H1) ∨ (x = .non ∧ Q (.str "None") H1), ⟨fun pins s σ H Q I h => ?_⟩, fun env σ c1 μ Q I en q => ?_⟩
  · refine wpAny_FormattedValue_plain (thn (pa.run pins s σ H _ I h) fun v s1 hv => ?_)
    obtain ⟨x, H1, I1, r1, q⟩ := hv
    rcases q with ⟨y, rfl, hz, q⟩ | ⟨i, rfl, hz, q⟩ | ⟨rfl, q⟩
    · obtain ⟨t, rfl⟩ := r1
      exact wpAny_formatField_str ⟨.str y, H1, I1, ⟨t, rfl⟩, q⟩ ⟨.str y, H1, I1.tok _, ⟨_, rfl⟩, q⟩ hz
    · obtain ⟨t, rfl⟩ := r1
      exact wpAny_formatField_int hz ⟨.str (toString i), H1, I1.tok _, ⟨_, rfl⟩, q⟩
    · cases r1
      exact wpAny_formatField_none ⟨.str "None", H1, I1.tok _, ⟨_, rfl⟩, q⟩
  · refine bindE (fun Q' => ka env σ c1 μ Q' I en) q fun x μ1 v c2 s1 I1 r1 q1 => ?_
    cases x with
    | str z =>
      obtain ⟨rfl, hz⟩ := rep_str.mp r1
      by_cases h : z.length ≤ 100000
      · have q1 : EQ S W σ c2 Q (match (if z.length ≤ 100000 then some z else none) with | some z => .ok (.str z) μ1 | none => .stuck) := q1
        rw [if_pos h] at q1
        exact .inl ⟨z, rfl, sz_of h, q1 _ c2 I1.step I1 r1⟩
      · have q1 : EQ S W σ c2 Q (match (if z.length ≤ 100000 then some z else none) with | some z => .ok (.str z) μ1 | none => .stuck) := q1
        rw [if_neg h] at q1
        exact q1.elim
    | int i =>
      have rr := rep_int.mp r1
      subst rr
      have q1 : EQ S W σ c2 Q (match (if i.natAbs.log2 < 1920 then some (toString i : Str) else none) with | some z => .ok (.str z) μ1 | none => .stuck) := q1
      by_cases h : i.natAbs.log2 < 1920
      · rw [if_pos h] at q1
        exact .inr (.inl ⟨i, rfl, h, q1 _ c2 I1.step I1 (rep_str.mpr ⟨rfl, okS_of _⟩)⟩)
      · rw [if_neg h] at q1
        exact q1.elim
    | non =>
      have rr := rep_non.mp r1
      subst rr
      exact .inr (.inr ⟨rfl, q1 _ c2 I1.step I1 (rep_str.mpr ⟨rfl, okS_of _⟩)⟩)
    | _ => exact q1.elim
/-! the parts of f'..' -/
def fsGo : List DE → Str → En → List M → Out D
  | [], acc, _, μ => .ok (.str acc) μ
  | d :: ds, acc, env, μ => (d env μ).bind fun x μ1 => match x with
    | .str y => if (acc ++ y).length ≤ 100000 then fsGo ds (acc ++ y) env μ1 else .stuck
    | _ => .stuck
def dFs (ds : List DE) : DE := fun env μ => fsGo ds Str.empty env μ
structure PDJ (X : Cx) (S : Sx) (W : WX) (es : List Expr) (ds : List DE) : Prop where
  ex : ∃ ts, PJ X es ts ∧ ∀ acc env σ c μ Q, okS acc = true → SI S c μ → EnvOk S c env σ → EQ S W σ c Q (fsGo ds acc env μ) → tJs ts acc σ c.H fun out H1 => Q (.str out) H1
theorem pdj_nil : PDJ X S W [] [] := ⟨[], .nil, fun acc env σ c μ Q ho I en q => q _ c I.step I (rep_str.mpr ⟨rfl, ho⟩)⟩
theorem pdj_cons {ds : List DE} {es : List Expr} (ha : PDE X S W a da) (hr : PDJ X S W es ds) : PDJ X S W (a :: es) (da :: ds) := by
  obtain ⟨ta, pa, ka⟩ := ha.ex
  obtain ⟨ts, pt, kt⟩ := hr.ex
  refine ⟨ta :: ts, .cons pa pt, fun acc env σ c μ Q ho I en q => ?_⟩
  refine (show ta σ c.H fun x H1 => ∃ y : Str, x = .str y ∧ (acc ++ y).length ≤ sizeLine ∧ tJs ts (acc ++ y) σ H1 (fun out H1 => Q (.str out) H1) from ?_)
  refine bindE (fun Q' => ka env σ c μ Q' I en) q fun x μ1 v c2 s1 I1 r1 q1 => ?_
  cases x with
  | str z =>
    obtain ⟨rfl, hz⟩ := rep_str.mp r1
    have q1 : EQ S W σ c2 Q (if (acc ++ z).length ≤ 100000 then fsGo ds (acc ++ z) env μ1 else .stuck) := q1
    by_cases h : (acc ++ z).length ≤ 100000
    · rw [if_pos h] at q1
      exact ⟨z, rfl, sz_of h, kt (acc ++ z) env σ c2 μ1 Q (okS_append ho hz) I1 (en.step s1) q1⟩
    · rw [if_neg h] at q1
      exact q1.elim
  | _ => exact q1.elim
theorem pd_fs {v1 v2 : Expr} {rest : List Expr} {ds : List DE} (h : PDJ X S W (v1 :: v2 :: rest) ds) : PDE X S W (.JoinedStr (v1 :: v2 :: rest) pos) (dFs ds) := by
  obtain ⟨ts, pt, kt⟩ := h.ex
  exact ⟨_, pe_joined pt, fun env σ c μ Q I en q => kt Str.empty env σ c μ Q okS_nil I en q⟩
/-! ### a local name that holds a def -/
def dCallA (i : Nat) (ds : DA) : List (Str × Nat × GF) → DE
  | [] => fun _ _ => .stuck
  | (x, np, G) :: cs => fun env μ => match env[i]?.join with
    | some (.glo y) => if y = x then (ds env μ).bind fun l μ1 => if l.length = np then G l μ1 else .stuck else dCallA i ds cs env μ
    | _ => .stuck
end
end DL
namespace DL
open PySem PySem.Spec PyProof.Rows L2
/-! ### defaults, as data -/
def toV : D → V
  | .non => .non | .bl b => .bl b | .int i => .int i | .str s => .str s
  | _ => .non
def isSimple : D → Bool
  | .non => true | .bl _ => true | .int _ => true | .str s => okS s
  | _ => false
theorem rep_simple {S : Sx} {io : List Addr} {F : Hp} : ∀ {d : D}, isSimple d = true → rep S io F d (toV d)
  | .non, _ => rep_non.mpr rfl
  | .bl _, _ => rep_bl.mpr rfl
  | .int _, _ => rep_int.mpr rfl
  | .str _, h => rep_str.mpr ⟨rfl, h⟩
  | .ty _, h => nomatch h
  | .glo _, h => nomatch h
  | .tup _, h => nomatch h
  | .lst _, h => nomatch h
  | .dct _ _, h => nomatch h
  | .obj _ _ _, h => nomatch h
  | .cel _, h => nomatch h
  | .scr _, h => nomatch h
  | .exc _ _ _, h => nomatch h
theorem reps_simple {S : Sx} {io : List Addr} {F : Hp} : ∀ {l : List D}, l.all isSimple = true → reps S io F l (l.map toV)
  | [], _ => .nil
  | d :: l, h => by
    have h := Bool.and_eq_true_iff.mp h
    exact .cons (rep_simple h.1) (reps_simple h.2)
section
variable {K : PySem.W.Frag} {x qual : Str} {params : Arguments} {body : List Stmt} {scope : Scope} {dvs : List V} {kws : List (Str × V)} {f : Addr} {fd : FuncData} {ps ks : List Str} {S : Sx} {dd : List D} {ds : List Value} {n : Nat} {idx : List Nat}
theorem dfl_of {j : Nat} (hs : dd.all isSimple = true) (h : Vals ((dd.map toV).drop j) ds) (hb : Binds K fd ps ds) : DflD S K fd ps (dd.drop j) :=
  ⟨_, _, hb, h, fun io F => (reps_simple hs).drop j⟩
/-! ### keywords -/
theorem kwm_of (F : FunD K x qual params body scope dvs kws f fd) (hd : dvs ≠ []) (hs : dd.all isSimple = true) (he : dvs = dd.map toV)
    (h : ∀ (T : Addr) (kV doc pm : Value) (an : Option Addr) (cdv ct : Value) (self : Value) (us its ws : List Value), us.length = n → its.length = dvs.length → ws.length = ks.length →
      ∃ k, bindArgs (PySem.W.fnOf x qual params body scope (.ref T) kV doc pm an cdv ct) ⟨self :: us, ks.zip ws⟩ = seqItems? (.ref T) >>= k ∧ k (some its.toArray) = pure (ps.zip (self :: pick idx (us ++ (ws ++ its))))) : KwM S K fd ps n ks idx dd := by
  obtain ⟨oc, od, dV, kV, doc, pm, an, cdv, ct, osl, rfl, lk, hcd, hD, hK⟩ := F.ex
  rcases hD with ⟨e, _⟩ | ⟨_, T, o, its, m, rfl, lT, oT, rT⟩
  · exact absurd e hd
  · refine ⟨dvs, its, rT, fun io F => by rw [he]; exact reps_simple hs, fun s self us ws X l1 l2 => ?_⟩
    obtain ⟨k, e1, e2⟩ := h T kV doc pm an cdv ct self us its ws l1 rT.length.symm l2
    refine BindsTo.of_looks fun M => ?_
    rw [e1]
    exact looks_items X lT oT (.of_pure e2)
/-- no defaults at all -/
theorem kwm_none (F : FunD K x qual params body scope [] [] f fd)
    (h : ∀ (kV doc pm : Value) (an : Option Addr) (cdv ct : Value) (self : Value) (us ws : List Value), us.length = n → ws.length = ks.length →
      bindArgs (PySem.W.fnOf x qual params body scope .none kV doc pm an cdv ct) ⟨self :: us, ks.zip ws⟩ = pure (ps.zip (self :: pick idx (us ++ (ws ++ []))))) : KwM S K fd ps n ks idx [] := by
  obtain ⟨oc, od, dV, kV, doc, pm, an, cdv, ct, osl, rfl, lk, hcd, hD, hK⟩ := F.ex
  rcases hD with ⟨_, rfl⟩ | ⟨e, _⟩
  · exact ⟨[], [], .nil, fun io F => .nil, fun s self us ws X l1 l2 => .of_eq (h kV doc pm an cdv ct self us ws l1 l2)⟩
  · exact absurd rfl e
/-- how a def's call with keywords binds -/
structure KwF (S : Sx) (K : PySem.W.Frag) (fd : FuncData) (ps : List Str) (n : Nat) (ks : List Str) (idx : List Nat) (dd : List D) : Prop where
  ex : ∃ (dvs : List V) (its : List Value), Vals dvs its ∧ (∀ io F, reps S io F dd dvs) ∧ ∀ (s : Shared) (us ws : List Value), K.In s.heap → us.length = n → ws.length = ks.length →
    BindsTo s fd ⟨us, ks.zip ws⟩ (ps.zip (pick idx (us ++ (ws ++ its))))
end
section
variable {X : Cx} {S : Sx} {W : WX} {a b e o : Expr} {es : List Expr} {da db d : DE} {ds dk : DA} {pos p apos : Pos} {k : Nat} {nm : Option Str} {kws : List Keyword} {f : Addr} {fd : FuncData} {ps ks : List Str} {np n : Nat} {G : GF} {dd : List D} {idx : List Nat} {x m c : Str} {sp : Sp}
/-! the bundles that a walk takes -/
theorem KwM.at0 {S : Sx} {n1 : Nat} {K : PySem.W.Frag} (h : KwM S K fd ps n ks idx dd) : KwM (DL.at0 S n1) K fd ps n ks idx dd := by
  obtain ⟨a, b, h1, h2, h3⟩ := h.ex
  exact ⟨a, b, h1, fun io F => (reps_at _).mpr (h2 io F), h3⟩
theorem KwF.at0 {S : Sx} {n1 : Nat} {K : PySem.W.Frag} (h : KwF S K fd ps n ks idx dd) : KwF (DL.at0 S n1) K fd ps n ks idx dd := by
  obtain ⟨a, b, h1, h2, h3⟩ := h.ex
  exact ⟨a, b, h1, fun io F => (reps_at _).mpr (h2 io F), h3⟩
structure MakK (md : Bool) (P : Program) (w : World) (K : PySem.W.Frag) (mg : Str → Option Value) (base : Heap) (S : Sx) (k : Nat) (c : Str) (np : Nat) (G : GF) (n : Nat) (ks : List Str) (idx : List Nat) (dd : List D) : Prop where
  ex : ∃ (f : Addr) (fd : FuncData) (ps : List Str), mg c = some (.ref (S.A c)) ∧ MkF S c f ∧ KwM S K fd ps n ks idx dd ∧ FnOk P w K mg base (L2M.CX md P w) k f fd ps (spD S np G)
variable {S0 : Sx} {n0 kr : Nat}
theorem pd_mkk (hK : X.K = S0.K) (C : MakK md X.prog X.w X.K X.mg X.base (at0 S0 0) k c np G n ks idx dd) (hr : Room kr X.A) (hk : k + 1 ≤ kr) (tk : L2M.Takes md X W) (hg : Gl X c)
    (ha : PDA X (at0 S0 n0) W (e :: es) ds) (hkw : PDK X (at0 S0 n0) W kws dk) (hall : (backToKw pos (keywordEach kws X.env)).all (·.1.isSome) = true := by rfl) (hks : (backToKw pos (keywordEach kws X.env)).filterMap (·.1) = ks := by rfl)
    (hdb : (c == ("__debug__" : Str)) = false := by decide) (he : starEach (e :: es) X.env = (false, eval e X.env) :: starEach es X.env := by rfl)
    (hpl : ((backTo pos (starEach (e :: es) X.env)).any (·.1) || (backToKw pos (keywordEach kws X.env)).any (·.1.isNone)) = false := by rfl) :
    PDE X (at0 S0 n0) W (.Call (.Name c p) (e :: es) kws pos) (dMake c np G [] (aPick n ks.length idx dd ds dk)) := by
  obtain ⟨f, fd, ps, h1, h2, h3, h4⟩ := C.ex
  exact DL.pd_mkK (S := at0 S0 n0) hK ⟨h2.mke, h2.mem⟩ h4 (hr.mono hk) tk hg h1 (h3.at0 (n1 := n0)) ha hkw hall hks hdb he hpl
theorem pd_mkk0 (hK : X.K = S0.K) (C : MakK md X.prog X.w X.K X.mg X.base (at0 S0 0) k c np G 0 ks idx dd) (hr : Room kr X.A) (hk : k + 1 ≤ kr) (tk : L2M.Takes md X W) (hg : Gl X c)
    (hkw : PDK X (at0 S0 n0) W kws dk) (hall : (backToKw pos (keywordEach kws X.env)).all (·.1.isSome) = true := by rfl) (hks : (backToKw pos (keywordEach kws X.env)).filterMap (·.1) = ks := by rfl)
    (hdb : (c == ("__debug__" : Str)) = false := by decide)
    (hpl : ((backTo pos (starEach [] X.env)).any (·.1) || (backToKw pos (keywordEach kws X.env)).any (·.1.isNone)) = false := by rfl) :
    PDE X (at0 S0 n0) W (.Call (.Name c p) [] kws pos) (dMake c np G [] (aPick 0 ks.length idx dd aNil dk)) := by
  obtain ⟨f, fd, ps, h1, h2, h3, h4⟩ := C.ex
  exact DL.pd_mkK0 (S := at0 S0 n0) hK ⟨h2.mke, h2.mem⟩ h4 (hr.mono hk) tk hg h1 (h3.at0 (n1 := n0)) hkw hall hks hdb hpl
end
end DL
namespace DL
open PySem PySem.Spec PyProof.Rows L2
section
variable {X : Cx} {S : Sx} {W : WX} {a b e o tg : Expr} {es : List Expr} {da db d : DE} {ds dk : DA} {pos p tpos : Pos} {k : Nat} {m : Str}
/-! ### {} -/
def dDct0 : DE := fun _ μ => .ok (.dct [] []) μ
/-! ### over a list, a tuple, a text: whichever it is -/
def itAny (μ : List M) : D → Option (List D × (List M → Prop))
  | .tup l => some (l, fun _ => True)
  | .str z => some (signs z, fun _ => True)
  | x => match seqOf μ x with
    | some l => some (l, fun μ2 => seqOf μ2 x = some l)
    | none => none
def iAny (da : DE) : DI := fun env μ => (da env μ).bind fun x μ1 => match itAny μ1 x with
  | some r => .ok r μ1
  | none => .stuck
theorem PI_or {w1 w2 : TI} (h1 : PI X tg e w1) (h2 : PI X tg e w2) : PI X tg e (fun σ H R => w1 σ H R ∨ w2 σ H R) :=
  ⟨fun pins s σ H R I h => h.elim (h1.run pins s σ H R I) (h2.run pins s σ H R I)⟩
theorem pdi_any (hK : X.K = S.K) (ha : PDE X S W a da) : PDI X S W tg a (iAny da) := by
  obtain ⟨w1, p1, k1⟩ := (pdi_seq (tg := tg) hK ha).ex
  obtain ⟨w2, p2, k2⟩ := (pdi_tup (tg := tg) hK ha).ex
  obtain ⟨w3, p3, k3⟩ := (pdi_str (tg := tg) ha).ex
  refine ⟨_, PI_or p1 (PI_or p2 p3), fun env σ c μ R I en q => ?_⟩
  unfold iAny at q
  have f1 := k1 env σ c μ R I en
  have f2 := k2 env σ c μ R I en
  have f3 := k3 env σ c μ R I en
  unfold iSeq at f1
  unfold iTupD at f2
  unfold iStrD at f3
  cases ed : da env μ with
  | ok x μ1 =>
    rw [ed] at q f1 f2 f3
    have go : ∀ y, x = y → (∀ l, y ≠ .tup l) → (∀ z, y ≠ .str z) → w1 σ c.H R := fun y ey n1 n2 => by
      subst ey
      refine f1 ?_
      cases x with
      | tup l => exact absurd rfl (n1 l)
      | str z => exact absurd rfl (n2 z)
      | _ =>
        all_goals
          first
          | (rename_i u
             have q : IQ S W σ c R (match (match seqOf μ1 _ with | some l => some (l, fun μ2 => seqOf μ2 _ = some l) | none => none) with | some r => .ok r μ1 | none => .stuck) := q
             revert q
             show IQ S W σ c R (match (match seqOf μ1 _ with | some l => some (l, fun μ2 => seqOf μ2 _ = some l) | none => none) with | some r => .ok r μ1 | none => .stuck) → IQ S W σ c R (match seqOf μ1 _ with | some l => _ | none => .stuck)
             cases seqOf μ1 _ with
             | none => exact fun q => q
             | some l => exact fun q => q)
          | exact q
    cases x with
    | tup l => exact .inr (.inl (f2 q))
    | str z => exact .inr (.inr (f3 q))
    | _ => exact .inl (go _ rfl (fun _ z => nomatch z) (fun _ z => nomatch z))
  | ex x ns l μ1 => rw [ed] at q f1; exact .inl (f1 q)
  | stuck => rw [ed] at q; exact q.elim
/-! ### isinstance(x, (A, B)) -/
def isSubs (t : Ty) (us : List Str) : Bool := us.any fun u => isSub t (.inr u)
def dIsT (us : List Str) (da : DE) : DE := fun env μ => (da env μ).bind fun x μ1 => match tagOf μ1 x with
  | some t => .ok (.bl (isSubs t us)) μ1
  | none => .stuck
/-! ### in, not in -/
def flatD : D → Bool
  | .non => true | .bl _ => true | .int _ => true | .str _ => true
  | _ => false
def inD (x : D) (l : List D) : Bool := l.any fun y => eqB y x
def opIn (neg : Bool) (μ : List M) (x y : D) : Option D := match x, y with
  | .str i, .str j => some (.bl (if neg then !(!(Builtin.Str.occurrences j i 0 j.length 1).isEmpty) else !(Builtin.Str.occurrences j i 0 j.length 1).isEmpty))
  | x, y => match seqOf μ y with
    | some l => if (flatD x && l.all flatD) = true then some (.bl (if neg then !inD x l else inD x l)) else none
    | none => none
theorem flat_at {io : List Addr} {F : Hp} {d : D} {v : V} (r : rep S io F d v) (h : flatD d = true) : flatV v = true := by
  cases d with
  | non => rw [rep_non.mp r]; rfl
  | bl b => rw [rep_bl.mp r]; rfl
  | int b => rw [rep_int.mp r]; rfl
  | str b => rw [(rep_str.mp r).1]; rfl
  | _ => cases h
theorem flats_at {io : List Addr} {F : Hp} : ∀ {l : List D} {xs : List V}, reps S io F l xs → l.all flatD = true → xs.all flatV = true
  | [], _, r, _ => by rw [r.eq_nil]; rfl
  | d :: l, _, r, h => by
    obtain ⟨x, q, rfl, r1, r2⟩ := r.uncons
    have h := Bool.and_eq_true_iff.mp h
    rw [List.all_cons, flat_at r1 h.1, flats_at r2 h.2]
    rfl
theorem eqV_at {io : List Addr} {F : Hp} {d d' : D} {v v' : V} (r : rep S io F d v) (r' : rep S io F d' v') (h : flatD d = true) (h' : flatD d' = true) : eqV v v' = eqB d d' := by
  cases d with
  | non => rw [rep_non.mp r]; cases d' with
    | non => rw [rep_non.mp r']; unfold eqB; rfl
    | bl b => rw [rep_bl.mp r']; unfold eqB; rfl
    | int b => rw [rep_int.mp r']; unfold eqB; rfl
    | str b => rw [(rep_str.mp r').1]; unfold eqB; rfl
    | _ => cases h'
  | bl a => rw [rep_bl.mp r]; cases d' with
    | non => rw [rep_non.mp r']; unfold eqB; rfl
    | bl b => rw [rep_bl.mp r']; unfold eqB; rfl
    | int b => rw [rep_int.mp r']; unfold eqB; rfl
    | str b => rw [(rep_str.mp r').1]; unfold eqB; rfl
    | _ => cases h'
  | int a => rw [rep_int.mp r]; cases d' with
    | non => rw [rep_non.mp r']; unfold eqB; rfl
    | bl b => rw [rep_bl.mp r']; unfold eqB; rfl
    | int b => rw [rep_int.mp r']; unfold eqB; rfl
    | str b => rw [(rep_str.mp r').1]; unfold eqB; rfl
    | _ => cases h'
  | str a => rw [(rep_str.mp r).1]; cases d' with
    | non => rw [rep_non.mp r']; unfold eqB; rfl
    | bl b => rw [rep_bl.mp r']; unfold eqB; rfl
    | int b => rw [rep_int.mp r']; unfold eqB; rfl
    | str b => rw [(rep_str.mp r').1]; unfold eqB; rfl
    | _ => cases h'
  | _ => cases h
theorem inV_at {io : List Addr} {F : Hp} {d : D} {v : V} (r : rep S io F d v) (h : flatD d = true) : ∀ {l : List D} {xs : List V}, reps S io F l xs → l.all flatD = true → inV v xs = inD d l
  | [], _, rs, _ => by rw [rs.eq_nil]; rfl
  | e :: l, _, rs, hs => by
    obtain ⟨x, q, rfl, r1, r2⟩ := rs.uncons
    have hs := Bool.and_eq_true_iff.mp hs
    unfold inV inD
    rw [List.any_cons, List.any_cons, eqV_at r1 r hs.1 h]
    have := inV_at r h r2 hs.2
    unfold inV inD at this
    rw [this]
theorem po_inG {neg : Bool} {op : CmpOp} (hK : X.K = S.K) (o1 : OpR X (compareOp op) (fun x y H Q => ∃ i j, x = .str i ∧ y = .str j ∧ Q (.bl (if neg then !(!(Builtin.Str.occurrences j i 0 j.length 1).isEmpty) else !(Builtin.Str.occurrences j i 0 j.length 1).isEmpty)) H)) (o2 : OpR X (compareOp op) (rIn X.K neg)) : PDO X S (compareOp op) (opIn neg) := by
  refine ⟨_, or_op o1 o2, fun c μ x y d1 d2 d Q I r1 r2 e k => ?_⟩
  have seq : (match seqOf μ d2 with | some l => if (flatD d1 && l.all flatD) = true then some (D.bl (if neg then !inD d1 l else inD d1 l)) else none | none => none) = some d → rIn X.K neg x y c.H Q := fun e => by
    cases es : seqOf μ d2 with
    | none => rw [es] at e; cases e
    | some l =>
      rw [es] at e
      obtain ⟨p, xs, rfl, h1, h2⟩ := seq_at I r2 es
      dsimp only at e
      by_cases h : (flatD d1 && l.all flatD) = true
      · rw [if_pos h] at e
        obtain rfl := Option.some.inj e
        have h := Bool.and_eq_true_iff.mp h
        refine ⟨p, xs, rfl, by rw [hK]; exact h1, flat_at r1 h.1, flats_at h2 h.2, ?_⟩
        rw [inV_at r1 h.1 h2 h.2]
        exact k _ c I.step I (rep_bl.mpr rfl)
      · rw [if_neg h] at e; cases e
  cases d1 with
  | str i =>
    cases d2 with
    | str j =>
      obtain rfl := Option.some.inj e
      exact .inl ⟨i, j, (rep_str.mp r1).1, (rep_str.mp r2).1, k _ c I.step I (rep_bl.mpr rfl)⟩
    | _ => exact .inr (seq e)
  | _ => exact .inr (seq e)
theorem po_in (hK : X.K = S.K) : PDO X S (compareOp .In) (opIn false) := po_inG hK op_in_str op_in_seq
/-! ### more methods of texts -/
/-! ### str(x) of an int, a text, None -/
end
end DL
namespace DL
open PySem PySem.Spec PyProof.Rows L2
section
variable {X : Cx} {S : Sx} {W : WX} {a b e : Expr} {body : List Stmt} {da db d : DE} {ds : DA} {pos p : Pos} {sb : DS}
/-- a try whose body raises nothing -/
def sTryN (b : DS) : DS := fun env μ => match b env μ with
  | .ex _ _ _ _ _ => .stuck
  | o => o
/-- a statement that is not come to -/
def sNever : DS := fun _ _ => .stuck
/-! ### str(x) of an int, a text -/
def bStr2 (_ : List M) : List D → Option D
  | [.int i] => if i.natAbs.log2 < 1920 then some (.str (toString i)) else none
  | [.str z] => some (.str z)
  | [.non] => some (.str "None")
  | _ => none
theorem pb_str2 : PDB X S (.type "str") bStr2 := by
  refine ⟨fun xs H Q => (∃ i, xs = [.int i] ∧ i.natAbs.log2 < 1920 ∧ Q (.str (toString i)) H) ∨ (∃ a, xs = [.str a] ∧ Q (.str a) H) ∨ (xs = [.non] ∧ Q (.str "None") H), ?_, fun c μ xs l d Q I r e k => ?_⟩
  · intro pins s σ H xs us Q I r h
    rcases h with h | h | ⟨rfl, q⟩
    · exact call_str_int pins s σ H xs us Q I r h
    · exact SkE.call_str_str pins s σ H xs us Q I r h
    · obtain ⟨u, rfl, r1⟩ := vals1 r
      cases r1
      exact PySem.P.str_of_none ⟨.str _, H, I.tok _, ⟨_, rfl⟩, q⟩
  · cases l with
    | nil => cases e
    | cons y l =>
      cases l with
      | cons _ _ => cases y <;> cases e
      | nil =>
        obtain ⟨v, r0, rfl, r1, r2⟩ := r.uncons
        rw [r2.eq_nil]
        cases y with
        | int i =>
          have e : (if i.natAbs.log2 < 1920 then some (D.str (toString i)) else none) = some d := e
          by_cases h : i.natAbs.log2 < 1920
          · rw [if_pos h] at e
            obtain rfl := Option.some.inj e
            exact .inl ⟨i, by rw [rep_int.mp r1], h, k _ c I.step I (rep_str.mpr ⟨rfl, okS_of _⟩)⟩
          · rw [if_neg h] at e; cases e
        | str z =>
          obtain rfl := Option.some.inj (show some (D.str z) = some d from e)
          obtain ⟨rfl, hz⟩ := rep_str.mp r1
          exact .inr (.inl ⟨z, rfl, k _ c I.step I (rep_str.mpr ⟨rfl, hz⟩)⟩)
        | non =>
          obtain rfl := Option.some.inj (show some (D.str "None") = some d from e)
          exact .inr (.inr ⟨by rw [rep_non.mp r1], k _ c I.step I (rep_str.mpr ⟨rfl, okS_of _⟩)⟩)
        | _ => cases e
end
end DL
namespace DL
open PySem PySem.Spec PyProof.Rows L2
/-! ### decidable readings of what a class needs -/
def nfB (S : Sx) (c : Str) : Bool := (tysOf S).all fun t => PySem.W.notFirst S.K (S.A c) (tyv S t)
theorem nfB_ok {S : Sx} {c : Str} (h : nfB S c = true) : NotF S c := fun t m => List.all_eq_true.mp h t m
def neB (S : Sx) (c : Str) : Bool := He.eqO (PySem.W.findIn S.K (.ref (S.A c)) "__ne__") (some (some (.builtin "object.__ne__"))) && decide (PySem.W.subIn S.K (.ref (S.A c)) (.type "object") = some true)
theorem neB_ok {S : Sx} {c : Str} (h : neB S c = true) : NeF S c := by
  have h := Bool.and_eq_true_iff.mp h
  exact ⟨He.eqO_ok h.1, of_decide_eq_true h.2⟩
theorem neB_at {S : Sx} {c : Str} {n : Nat} (h : neB S c = true) : NeF (at0 S n) c := ⟨(neB_ok h).ne, (neB_ok h).ob⟩
theorem all_nil {P : Str → Prop} : ∀ x ∈ ([] : List Str), P x := fun _ h => nomatch h
theorem all_cons {P : Str → Prop} {c : Str} {cs : List Str} (h : P c) (t : ∀ x ∈ cs, P x) : ∀ x ∈ c :: cs, P x := fun x m => (List.mem_cons.mp m).elim (fun e => by rw [e]; exact h) (t x)
theorem mkF_of {S : Sx} {c : Str} {f : Addr} (h : c ∈ S.cls) (m : Mk S.K (S.A c) f) : MkF S c f := ⟨m, h⟩
theorem mtF_of {S : Sx} {c m : Str} {f : Addr} (hc : Cls S.K (S.A c)) (hm : Meth S.K (S.A c) m f) : MtF S c m f := ⟨hc, hm⟩
section
variable {X : Cx} {S : Sx} {W : WX} {a b e : Expr} {da db d : DE} {pos p : Pos}
/-! ### xs[::-1] of a list or a text -/
def revA (μ : List M) : D → Option D
  | .str z => if z.length ≤ 100000 then some (.str (revS z)) else none
  | x => (lstOf μ x).map fun l => .lst l.reverse
def dRevA (da : DE) : DE := fun env μ => (da env μ).bind fun x μ1 => match revA μ1 x with
  | some d => .ok d μ1
  | none => .stuck
end
end DL
namespace DL
open PySem PySem.Spec PyProof.Rows L2
/-! ### readings of the further denotations -/
section
variable {α β : Type} {X : XP} {N : En → List M → Prop} {R : D → List M → Prop} {B C : En → List M → Prop} {Z : Str → List Str → List D → En → List M → Prop} {ks : Ks N R B C Z} {env : En} {μ : List M} {Q : D → List M → Prop} {k : Kt Q X}
theorem wo_cong {Q Q' : α → List M → Prop} {k : Kt Q X} {k' : Kt Q' X} {o : Out α} (h : ∀ x m, Q x m = Q' x m) : WO o Q X k = WO o Q' X k' := by
  cases o with
  | ok a m => exact h a m
  | ex _ _ _ _ => rfl
  | stuck => rfl
theorem w_dct0 : WO (dDct0 env μ) Q X k = Q (.dct [] []) μ := id rfl
/-! o.m(..) -/
def isC (c m : Str) (μ : List M) (x : D) : Prop := clsAt μ x = some c ∧ (fldAt μ m x).isNone = true
theorem w_meth {c m : Str} {np : Nat} {G : GF} {dd : List D} {da : DE} {ds : DA} : WO (dMeth c m np G dd da ds env μ) Q X k = WO (da env μ) (fun x m1 => isC c m m1 x ∧ WO (ds env m1) (fun l m2 => (x :: (l ++ dd)).length = np ∧ WO (G (x :: (l ++ dd)) m2) Q X ⟨⟩) X ⟨⟩) X ⟨⟩ := by
  unfold dMeth
  rw [w_bind]
  refine wo_cong fun x m1 => ?_
  by_cases h : clsAt m1 x = some c ∧ (fldAt m1 m x).isNone = true
  · rw [if_pos h, w_bind]
    refine Eq.trans (wo_cong (Q' := fun l m2 => (x :: (l ++ dd)).length = np ∧ WO (G (x :: (l ++ dd)) m2) Q X ⟨⟩) fun l m2 => ?_) (propext ⟨fun q => ⟨h, q⟩, fun q => q.2⟩)
    by_cases hl : (x :: (l ++ dd)).length = np
    · rw [if_pos hl]; exact propext ⟨fun q => ⟨hl, q⟩, fun q => q.2⟩
    · rw [if_neg hl]; exact propext ⟨fun q => q.elim, fun q => absurd q.1 hl⟩
  · rw [if_neg h]
    exact propext ⟨fun q => q.elim, fun q => absurd q.1 h⟩
theorem isC_obj {c m : Str} {ns : List Str} {l : List D} : isC c m μ (.obj c ns l) = ((fldOf m ns l).isNone = true) := propext ⟨fun h => h.2, fun h => ⟨rfl, h⟩⟩
/-! C(..) -/
def makeD (c : Str) (np : Nat) (G : GF) (l : List D) (μ1 : List M) : Out D := if l.length + 1 = np then match G (.cel μ1.length :: l) (μ1 ++ [.obj c [] []]) with
    | .ok .non μ2 => match finD μ1.length μ2 (.cel μ1.length) with
      | some (d, μ3) => .ok d μ3
      | none => .stuck
    | .ok _ _ => .stuck
    | .ex x ns l' μ2 => match finL μ1.length μ2 l' with
      | some (l2, μ3) => .ex x ns l2 μ3
      | none => .stuck
    | .stuck => .stuck
  else .stuck
theorem w_make {c : Str} {np : Nat} {G : GF} {dd : List D} {ds : DA} : WO (dMake c np G dd ds env μ) Q X k = WO (ds env μ) (fun l m => WO (makeD c np G (l ++ dd) m) Q X ⟨⟩) X ⟨⟩ := w_bind
theorem w_pick {n m : Nat} {idx : List Nat} {dd : List D} {ds dk : DA} {Q : List D → List M → Prop} {k : Kt Q X} : WO (aPick n m idx dd ds dk env μ) Q X k = WO (ds env μ) (fun l m1 => WO (dk env m1) (fun z m2 => (l.length = n ∧ z.length = m) ∧ Q (pick idx (l ++ (z ++ dd))) m2) X ⟨⟩) X ⟨⟩ := by
  unfold aPick
  rw [w_bind]
  refine wo_cong fun l m1 => ?_
  rw [w_bind]
  refine wo_cong fun z m2 => ?_
  by_cases h : l.length = n ∧ z.length = m
  · rw [if_pos h]; exact propext ⟨fun q => ⟨h, q⟩, fun q => q.2⟩
  · rw [if_neg h]; exact propext ⟨fun q => q.elim, fun q => absurd q.1 h⟩
theorem pick_cons {α : Type} {i : Nat} {is : List Nat} {xs : List α} : pick (i :: is) xs = match xs[i]? with | some x => x :: pick is xs | none => pick is xs := by
  unfold pick
  rw [List.filterMap_cons]
  cases xs[i]? <;> rfl
theorem pick_nil {α : Type} {xs : List α} : pick [] xs = [] := id rfl
/-! x == y, x != y of an own class -/
theorem w_own {c : Str} {G : GF} {da db : DE} : WO (dOwn c G da db env μ) Q X k = WO (da env μ) (fun x m1 => WO (db env m1) (fun y m2 => (clsAt m2 x = some c ∧ (tagOf m2 y).isSome = true) ∧ WO (G [x, y] m2) (fun r m3 => OP (isB r) (fun b => Q (.bl b) m3) ⟨⟩) X ⟨⟩) X ⟨⟩) X ⟨⟩ := by
  unfold dOwn
  rw [w_bind]
  refine wo_cong fun x m1 => ?_
  rw [w_bind]
  refine wo_cong fun y m2 => ?_
  by_cases h : clsAt m2 x = some c ∧ (tagOf m2 y).isSome = true
  · rw [if_pos h, w_bind]
    refine Eq.trans (wo_cong (Q' := fun r m3 => OP (isB r) (fun b => Q (.bl b) m3) ⟨⟩) fun r m3 => ?_) (propext ⟨fun q => ⟨h, q⟩, fun q => q.2⟩)
    cases r <;> rfl
  · rw [if_neg h]; exact propext ⟨fun q => q.elim, fun q => absurd q.1 h⟩
theorem w_ne {c : Str} {G : GF} {da db : DE} : WO (dNe c G da db env μ) Q X k = WO (da env μ) (fun x m1 => WO (db env m1) (fun y m2 => (clsAt m2 x = some c ∧ (tagOf m2 y).isSome = true) ∧ WO (G [x, y] m2) (fun r m3 => OP (isB r) (fun b => Q (.bl (!b)) m3) ⟨⟩) X ⟨⟩) X ⟨⟩) X ⟨⟩ := by
  unfold dNe
  rw [w_bind]
  refine wo_cong fun x m1 => ?_
  rw [w_bind]
  refine wo_cong fun y m2 => ?_
  by_cases h : clsAt m2 x = some c ∧ (tagOf m2 y).isSome = true
  · rw [if_pos h, w_bind]
    refine Eq.trans (wo_cong (Q' := fun r m3 => OP (isB r) (fun b => Q (.bl (!b)) m3) ⟨⟩) fun r m3 => ?_) (propext ⟨fun q => ⟨h, q⟩, fun q => q.2⟩)
    cases r <;> rfl
  · rw [if_neg h]; exact propext ⟨fun q => q.elim, fun q => absurd q.1 h⟩
/-! str(x), repr(x), f'{x}' -/
theorem w_obS {c : Str} {G : GF} {da : DE} : WO (dObS c G da env μ) Q X k = WO (da env μ) (fun x m1 => clsAt m1 x = some c ∧ WO (G [x] m1) (fun r m3 => OP (isS r) (fun z => Q (.str z) m3) ⟨⟩) X ⟨⟩) X ⟨⟩ := by
  unfold dObS
  rw [w_bind]
  refine wo_cong fun x m1 => ?_
  by_cases h : clsAt m1 x = some c
  · rw [if_pos h, w_bind]
    refine Eq.trans (wo_cong (Q' := fun r m3 => OP (isS r) (fun z => Q (.str z) m3) ⟨⟩) fun r m3 => ?_) (propext ⟨fun q => ⟨h, q⟩, fun q => q.2⟩)
    cases r <;> rfl
  · rw [if_neg h]; exact propext ⟨fun q => q.elim, fun q => absurd q.1 h⟩
theorem cls_obj {c : Str} {ns : List Str} {l : List D} : clsAt μ (.obj c ns l) = some c := id rfl
theorem fld_obj {c f : Str} {ns : List Str} {l : List D} : fldAt μ f (.obj c ns l) = fldOf f ns l := id rfl
theorem w_fmt {da : DE} : WO (dFmt da env μ) Q X k = WO (da env μ) (fun x m1 => OP (fmtS x) (fun z => Q (.str z) m1) ⟨⟩) X ⟨⟩ := by
  unfold dFmt
  rw [w_bind]
  refine wo_cong fun x m1 => ?_
  cases fmtS x <;> rfl
theorem w_fs {ds : List DE} : WO (dFs ds env μ) Q X k = WO (fsGo ds Str.empty env μ) Q X ⟨⟩ := id rfl
theorem w_fsNil {acc : Str} : WO (fsGo [] acc env μ) Q X k = Q (.str acc) μ := id rfl
theorem w_fsCons {d : DE} {ds : List DE} {acc : Str} : WO (fsGo (d :: ds) acc env μ) Q X k = WO (d env μ) (fun x m1 => OP (isS x) (fun y => (acc ++ y).length ≤ 100000 ∧ WO (fsGo ds (acc ++ y) env m1) Q X ⟨⟩) ⟨⟩) X ⟨⟩ := by
  show WO ((d env μ).bind _) Q X k = _
  rw [w_bind]
  refine wo_cong fun x m1 => ?_
  cases x with
  | str y =>
    show WO (if (acc ++ y).length ≤ 100000 then fsGo ds (acc ++ y) env m1 else .stuck) Q X ⟨⟩ = ((acc ++ y).length ≤ 100000 ∧ WO (fsGo ds (acc ++ y) env m1) Q X ⟨⟩)
    by_cases h : (acc ++ y).length ≤ 100000
    · rw [if_pos h]; exact propext ⟨fun q => ⟨h, q⟩, fun q => q.2⟩
    · rw [if_neg h]; exact propext ⟨fun q => q.elim, fun q => absurd q.1 h⟩
  | _ => rfl
/-! others -/
theorem w_isT {us : List Str} {da : DE} : WO (dIsT us da env μ) Q X k = WO (da env μ) (fun x m1 => OP (tagOf m1 x) (fun t => Q (.bl (isSubs t us)) m1) ⟨⟩) X ⟨⟩ := by
  unfold dIsT
  rw [w_bind]
  refine wo_cong fun x m1 => ?_
  cases tagOf m1 x <;> rfl
theorem w_revA {da : DE} : WO (dRevA da env μ) Q X k = WO (da env μ) (fun x m1 => OP (revA m1 x) (fun d => Q d m1) ⟨⟩) X ⟨⟩ := by
  unfold dRevA
  rw [w_bind]
  refine wo_cong fun x m1 => ?_
  cases revA m1 x <;> rfl
theorem i_any {da : DE} {Q : List D × (List M → Prop) → List M → Prop} {k : Kt Q X} : WO (iAny da env μ) Q X k = WO (da env μ) (fun x m1 => OP (itAny m1 x) (fun r => Q r m1) ⟨⟩) X ⟨⟩ := by
  unfold iAny
  rw [w_bind]
  refine wo_cong fun x m1 => ?_
  cases itAny m1 x <;> rfl
theorem ia_tup {l : List D} : itAny μ (.tup l) = some (l, fun _ => True) := id rfl
theorem ia_str {z : Str} : itAny μ (.str z) = some (signs z, fun _ => True) := id rfl
theorem ia_lst {l : List D} : itAny μ (.lst l) = some (l, fun _ => True) := by
  have e : (fun μ2 : List M => seqOf μ2 (.lst l) = some l) = fun _ => True := funext fun _ => eq_true rfl
  show (some (l, fun μ2 : List M => seqOf μ2 (.lst l) = some l) : Option (List D × (List M → Prop))) = _
  rw [e]
theorem ia_scr {ns : List Int} : itAny μ (.scr ns) = some (ns.map D.int, fun _ => True) := by
  have e : (fun μ2 : List M => seqOf μ2 (.scr ns) = some (ns.map D.int)) = fun _ => True := funext fun _ => eq_true rfl
  show (some (ns.map D.int, fun μ2 : List M => seqOf μ2 (.scr ns) = some (ns.map D.int)) : Option (List D × (List M → Prop))) = _
  rw [e]
theorem ia_cel {i : Nat} : itAny μ (.cel i) = (cellL μ[i]?).map fun l => (l, fun μ2 => cellL μ2[i]? = some l) := by
  show (match seqOf μ (.cel i) with | some l => some (l, fun μ2 => seqOf μ2 (.cel i) = some l) | none => none) = _
  rw [c_seq]
  cases cellL μ[i]? with
  | none => rfl
  | some l =>
    show some (l, fun μ2 : List M => seqOf μ2 (.cel i) = some l) = some (l, fun μ2 => cellL μ2[i]? = some l)
    have e2 : (fun μ2 : List M => seqOf μ2 (.cel i) = some l) = fun μ2 => cellL μ2[i]? = some l := funext fun μ2 => by rw [c_seq]
    rw [e2]
theorem w_m0 {g : List M → Str → List D → Option D} {a : DE} : WO (dM0 g a env μ) Q X k = WO (a env μ) (fun x m => OP (isS x) (fun z => OP (g m z []) (fun d => Q d m) ⟨⟩) ⟨⟩) X ⟨⟩ := by
  unfold dM0
  rw [w_bind]
  refine wo_cong fun x m => ?_
  cases x with
  | str z =>
    show WO (match g m z [] with | some d => .ok d m | none => .stuck) Q X ⟨⟩ = OP (g m z []) _ ⟨⟩
    cases g m z [] <;> rfl
  | _ => rfl
def gloOf : Option (Option D) → Option Str
  | some (some (.glo y)) => some y
  | _ => none
theorem gl_glo {y : Str} : gloOf (some (some (.glo y))) = some y := id rfl
def candOf (y : Str) : List (Str × Nat × GF) → Option (Nat × GF)
  | [] => none
  | (x, np, G) :: cs => if y = x then some (np, G) else candOf y cs
theorem w_callA {i : Nat} {ds : DA} {cs : List (Str × Nat × GF)} : WO (dCallA i ds cs env μ) Q X k = OP ((gloOf env[i]?).bind fun y => candOf y cs) (fun c => WO (ds env μ) (fun l m => l.length = c.1 ∧ WO (c.2 l m) Q X ⟨⟩) X ⟨⟩) ⟨⟩ := by
  induction cs with
  | nil => cases gloOf env[i]? <;> rfl
  | cons c cs ih =>
    obtain ⟨x, np, G⟩ := c
    show WO (match env[i]?.join with | some (.glo y) => if y = x then (ds env μ).bind fun l μ1 => if l.length = np then G l μ1 else .stuck else dCallA i ds cs env μ | _ => .stuck) Q X k = _
    cases e : env[i]? with
    | none => rfl
    | some o =>
      cases o with
      | none => rfl
      | some d =>
        rw [e] at ih
        cases d with
        | glo y =>
          show WO (if y = x then (ds env μ).bind fun l μ1 => if l.length = np then G l μ1 else .stuck else dCallA i ds cs env μ) Q X k = OP (if y = x then some (np, G) else candOf y cs) _ ⟨⟩
          by_cases h : y = x
          · rw [if_pos h, if_pos h, w_bind]
            show WO (ds env μ) _ X ⟨⟩ = WO (ds env μ) _ X ⟨⟩
            refine wo_cong fun l m => ?_
            by_cases hl : l.length = np
            · rw [if_pos hl]; exact propext ⟨fun q => ⟨hl, q⟩, fun q => q.2⟩
            · rw [if_neg hl]; exact propext ⟨fun q => q.elim, fun q => absurd q.1 hl⟩
          · rw [if_neg h, if_neg h]
            exact ih
        | _ => rfl
/-! statements -/
theorem s_tryN {b : DS} : WS (sTryN b env μ) N R B C Z ks = WS (b env μ) N R B C (fun _ _ _ _ _ => False) ⟨⟩ := by
  unfold sTryN
  cases b env μ <;> rfl
theorem s_never : WS (sNever env μ) N R B C Z ks = False := id rfl
def celO (m : List M) : D → Option (Nat × Str × List Str × List D)
  | .cel i => match m[i]? with
    | some (.obj c ns l) => some (i, c, ns, l)
    | _ => none
  | _ => none
theorem co_cel {i : Nat} {c : Str} {ns : List Str} {l : List D} (h : μ[i]? = some (.obj c ns l)) : celO μ (.cel i) = some (i, c, ns, l) := by
  show (match μ[i]? with | some (.obj c ns l) => some (i, c, ns, l) | _ => none) = _
  rw [h]
theorem s_fld {f : Str} {da de : DE} : WS (sFldSet f da de env μ) N R B C Z ks = WO (de env μ) (fun y m1 => WO (da env m1) (fun x m2 => OP (celO m2 x) (fun o => o.2.2.1.length < 1000 ∧ N env (m2.set o.1 (.obj o.2.1 (putD f y o.2.2.1 o.2.2.2).1 (putD f y o.2.2.1 o.2.2.2).2))) ⟨⟩) (fun c ns l m => Z c ns l env m) ⟨⟩) (fun c ns l m => Z c ns l env m) ⟨⟩ := by
  unfold sFldSet
  rw [w_bindS]
  refine wo_cong fun y m1 => ?_
  rw [w_bindS]
  refine wo_cong fun x m2 => ?_
  cases x with
  | cel i =>
    show WS (match m2[i]? with | some (.obj c ns l) => (if ns.length < 1000 then .nx env (m2.set i (.obj c (putD f y ns l).1 (putD f y ns l).2)) else .stuck) | _ => .stuck) N R B C Z ⟨⟩ = OP (match m2[i]? with | some (.obj c ns l) => some (i, c, ns, l) | _ => none) _ ⟨⟩
    cases m2[i]? with
    | none => rfl
    | some o =>
      cases o with
      | obj c ns l =>
        show WS (if ns.length < 1000 then _ else _) N R B C Z ⟨⟩ = (ns.length < 1000 ∧ _)
        by_cases h : ns.length < 1000
        · rw [if_pos h]; exact propext ⟨fun q => ⟨h, q⟩, fun q => q.2⟩
        · rw [if_neg h]; exact propext ⟨fun q => q.elim, fun q => absurd q.1 h⟩
      | _ => rfl
  | _ => rfl
theorem w_listN {ds : DA} {Q : List D → List M → Prop} {k : Kt Q X} : WO (dListN ds env μ) Q X k = WO (ds env μ) (fun l m => OP (match l with | [x] => seqOf m x | _ => none) (fun l' => Q l' m) ⟨⟩) X ⟨⟩ := by
  unfold dListN
  rw [w_bind]
  refine wo_cong fun l m => ?_
  match l with
  | [] => rfl
  | [x] =>
    show WO (match seqOf m x with | some l => .ok l m | none => .stuck) Q X ⟨⟩ = OP (seqOf m x) _ ⟨⟩
    cases seqOf m x <;> rfl
  | _ :: _ :: _ => rfl
/-! targets -/
theorem g_seq {n : Nat} {gs : List D → En → List M → Option En} {d : D} : gSeq n gs d env μ = (seqOf μ d).bind fun l => if l.length = n then gs l env μ else none := by
  show (match seqOf μ d with | some l => if l.length = n then gs l env μ else none | none => none) = _
  cases seqOf μ d <;> rfl
theorem g_cons {g : DG} {gs : List D → En → List M → Option En} {d : D} {l : List D} : gsCons g gs (d :: l) env μ = (g d env μ).bind fun e => gs l e μ := by
  show (match g d env μ with | some env1 => gs l env1 μ | none => none) = _
  cases g d env μ <;> rfl
theorem g_nil : gsNil [] env μ = some env := id rfl
theorem g_nm {i : Nat} {d : D} : gNm i d env μ = some (env.set i (some d)) := id rfl
/-! what a def comes to, said by an equation -/
theorem eq_ok {o : Out D} {d : D} {m : List M} (h : WO o (fun x m' => x = d ∧ m' = m) xNo ⟨⟩) : o = .ok d m := by
  obtain ⟨x, m', e, rfl, rfl⟩ := h.ex_
  exact e
theorem eq_ex {o : Out D} {c : Str} {ns : List Str} {l : List D} {m : List M} (h : WO o (fun _ _ => False) (fun c' ns' l' m' => c' = c ∧ ns' = ns ∧ l' = l ∧ m' = m) ⟨⟩) : o = .ex c ns l m := by
  cases o with
  | ok a m' => exact False.elim h
  | ex c' ns' l' m' =>
    obtain ⟨rfl, rfl, rfl, rfl⟩ := h
    rfl
  | stuck => exact False.elim h
end
end DL
namespace DL
open PySem PySem.Spec PyProof.Rows L2
section
variable {X : XP} {N : En → List M → Prop} {R : D → List M → Prop} {B C : En → List M → Prop} {Z : Str → List Str → List D → En → List M → Prop} {ks : Ks N R B C Z} {env : En} {m : List M} {g : List M → Prop} {tg : DG} {body : DS} {tt : DT} {el : DE}
/-- a comprehension whose parts change nothing -/
theorem lc_pure {env0 : En} (t : D → Bool) (f : D → D) (hg : g m) : ∀ (l acc : List D), (∀ x ∈ l, ∃ e1, tg x env0 m = some e1 ∧ tt e1 m = .ok (t x) m ∧ (t x = true → el e1 m = .ok (f x) m)) → acc.length + l.length ≤ 100000 →
    lcGo g tg tt el env0 l m acc = .ok (acc ++ (l.filter t).map f) m
  | [], acc, _, _ => by
    rw [lcGo, guard_of hg, if_pos rfl, List.filter_nil, List.map_nil, List.append_nil]
  | x :: xs, acc, h, hl => by
    obtain ⟨e1, h1, h2, h3⟩ := h x List.mem_cons_self
    rw [List.length_cons] at hl
    rw [lcGo, guard_of hg, if_pos rfl, h1]
    dsimp only
    rw [h2]
    dsimp only
    cases ht : t x with
    | true =>
      rw [if_pos rfl, h3 ht]
      dsimp only
      rw [if_pos (by omega), lc_pure t f hg xs (acc ++ [f x]) (fun y hy => h y (List.mem_cons_of_mem _ hy)) (by rw [List.length_append]; show acc.length + 1 + _ ≤ _; omega), List.filter_cons, ht, if_pos rfl, List.map_cons, List.append_assoc]
      rfl
    | false =>
      rw [if_neg Bool.false_ne_true, lc_pure t f hg xs acc (fun y hy => h y (List.mem_cons_of_mem _ hy)) (by omega), List.filter_cons, ht, if_neg Bool.false_ne_true]
theorem lc_map {env0 : En} (f : D → D) (hg : g m) (l : List D) (h : ∀ x ∈ l, ∃ e1, tg x env0 m = some e1 ∧ el e1 m = .ok (f x) m) (hl : l.length ≤ 100000) :
    lcGo g tg tYes' el env0 l m [] = .ok (l.map f) m := by
  rw [lc_pure (fun _ => true) f hg l [] (fun x hx => by
    obtain ⟨e1, h1, h2⟩ := h x hx
    exact ⟨e1, h1, rfl, fun _ => h2⟩) (by show 0 + l.length ≤ _; omega), List.nil_append]
  congr 2
  exact List.filter_eq_self.mpr fun _ _ => rfl
theorem w_lcNil {env0 : En} {acc : List D} {Q : List D → List M → Prop} {k : Kt Q X} : WO (lcGo g tg tt el env0 [] m acc) Q X k = (g m ∧ Q acc m) := by
  rw [lcGo]
  by_cases h : g m
  · rw [guard_of h, if_pos rfl]
    exact propext ⟨fun q => ⟨h, q⟩, fun q => q.2⟩
  · have e : guard g m = false := by
      cases e : guard g m with
      | false => rfl
      | true => exact absurd (guard_iff.mp e) h
    rw [e, if_neg Bool.false_ne_true]
    exact propext ⟨fun q => q.elim, fun q => absurd q.1 h⟩
theorem w_lcCons {env0 : En} {x : D} {xs acc : List D} {Q : List D → List M → Prop} {k : Kt Q X} : WO (lcGo g tg tt el env0 (x :: xs) m acc) Q X k = (g m ∧ OP (tg x env0 m) (fun e1 => WO (tt e1 m) (fun c m2 => if c = true then WO (el e1 m2) (fun y m3 => acc.length < 100000 ∧ WO (lcGo g tg tt el env0 xs m3 (acc ++ [y])) Q X ⟨⟩) xNo ⟨⟩ else WO (lcGo g tg tt el env0 xs m2 acc) Q X ⟨⟩) xNo ⟨⟩) ⟨⟩) := by
  rw [lcGo]
  by_cases h : g m
  · rw [guard_of h, if_pos rfl]
    refine Eq.trans ?_ (propext (⟨fun q => ⟨h, q⟩, fun q => q.2⟩ : OP (tg x env0 m) (fun e1 => WO (tt e1 m) (fun c m2 => if c = true then WO (el e1 m2) (fun y m3 => acc.length < 100000 ∧ WO (lcGo g tg tt el env0 xs m3 (acc ++ [y])) Q X ⟨⟩) xNo ⟨⟩ else WO (lcGo g tg tt el env0 xs m2 acc) Q X ⟨⟩) xNo ⟨⟩) ⟨⟩ ↔ _))
    cases tg x env0 m with
    | none => rfl
    | some e1 =>
      show WO (match tt e1 m with | .ok b μ1 => (if b = true then (match el e1 μ1 with | .ok y μ2 => if acc.length < 100000 then lcGo g tg tt el env0 xs μ2 (acc ++ [y]) else .stuck | _ => .stuck) else lcGo g tg tt el env0 xs μ1 acc) | _ => .stuck) Q X k = WO (tt e1 m) _ xNo ⟨⟩
      cases tt e1 m with
      | ok b μ1 =>
        cases b with
        | true =>
          show WO (match el e1 μ1 with | .ok y μ2 => if acc.length < 100000 then lcGo g tg tt el env0 xs μ2 (acc ++ [y]) else .stuck | _ => .stuck) Q X k = WO (el e1 μ1) _ xNo ⟨⟩
          cases el e1 μ1 with
          | ok y μ2 =>
            show WO (if acc.length < 100000 then _ else _) Q X k = (acc.length < 100000 ∧ _)
            by_cases h : acc.length < 100000
            · rw [if_pos h]; exact propext ⟨fun q => ⟨h, q⟩, fun q => q.2⟩
            · rw [if_neg h]; exact propext ⟨fun q => q.elim, fun q => absurd q.1 h⟩
          | ex _ _ _ _ => rfl
          | stuck => rfl
        | false => rfl
      | ex _ _ _ _ => rfl
      | stuck => rfl
  · have e : guard g m = false := by
      cases e : guard g m with
      | false => rfl
      | true => exact absurd (guard_iff.mp e) h
    rw [e, if_neg Bool.false_ne_true]
    exact propext ⟨fun q => q.elim, fun q => absurd q.1 h⟩
theorem t_yes {Q : Bool → List M → Prop} {k : Kt Q X} : WO (tYes' env m) Q X k = Q true m := id rfl
theorem wipe_cons {v : Nat} {vs : List Nat} : wipeE env (v :: vs) = (wipeE env vs).set v none := id rfl
theorem wipe_nil : wipeE env [] = env := id rfl
end
/-! ### a making, by what __init__ comes to -/
theorem makeD_ok {c : Str} {np : Nat} {G : GF} {l : List D} {m : List M} {ns : List Str} {fs : List D} (hc : Cln m) (hn : l.length + 1 = np) (hf : cleans 0 fs = true) (h : G (.cel m.length :: l) (m ++ [M.obj c [] []]) = .ok .non (m ++ [M.obj c ns fs])) : makeD c np G l m = .ok (.obj c ns fs) m := by
  have e1 : (m ++ [M.obj c ns fs]).take m.length = m := List.take_left
  have e2 : subMs m.length (rsv m.length (m ++ [M.obj c ns fs]) 20) m = some m := subMs_clean m (by
    have := hc.all (n := m.length) (k := m.length)
    rwa [List.take_length] at this)
  have e3 : sub m.length (rsv m.length (m ++ [M.obj c ns fs]) 20) (.cel m.length) = some (.obj c ns fs) := by
    show (if m.length < m.length then some (D.cel m.length) else rsv m.length (m ++ [M.obj c ns fs]) 20 m.length) = _
    rw [if_neg (Nat.lt_irrefl _)]
    show rsv m.length (m ++ [M.obj c ns fs]) (19 + 1) m.length = _
    unfold rsv
    rw [List.getElem?_concat_length]
    show (subs m.length (rsv m.length (m ++ [M.obj c ns fs]) 19) fs).map (D.obj c ns) = _
    rw [subs_clean fs (cleans_up fs hf)]
    rfl
  unfold makeD
  rw [if_pos hn, h]
  show (match finD m.length (m ++ [M.obj c ns fs]) (.cel m.length) with | some (d, μ3) => Out.ok d μ3 | none => .stuck) = _
  unfold finD
  rw [e3, e1, e2]
theorem makeD_ex {c x : Str} {np : Nat} {G : GF} {l : List D} {m : List M} (hc : Cln m) (hn : l.length + 1 = np) (h : G (.cel m.length :: l) (m ++ [M.obj c [] []]) = .ex x [] [] (m ++ [M.obj c [] []])) : makeD c np G l m = .ex x [] [] m := by
  have e1 : (m ++ [M.obj c [] []]).take m.length = m := List.take_left
  have e2 : subMs m.length (rsv m.length (m ++ [M.obj c [] []]) 20) m = some m := subMs_clean m (by
    have := hc.all (n := m.length) (k := m.length)
    rwa [List.take_length] at this)
  unfold makeD
  rw [if_pos hn, h]
  show (match finL m.length (m ++ [M.obj c [] []]) [] with | some (l2, μ3) => Out.ex x [] l2 μ3 | none => .stuck) = _
  unfold finL
  rw [show subs m.length (rsv m.length (m ++ [M.obj c [] []]) 20) [] = some [] from rfl, e1, e2]
/-! ### plain data: equality, cleanliness, by parts -/
section
variable {m : List M} {i j : Int} {x y : Str} {b c : Bool} {l l' : List D} {d e : D} {n : Nat}
theorem nn_non : isNon .non = true := id rfl
theorem nn_int : isNon (.int i) = false := id rfl
theorem nn_str : isNon (.str x) = false := id rfl
theorem nn_bl : isNon (.bl b) = false := id rfl
theorem nn_tup : isNon (.tup l) = false := id rfl
theorem nn_lst : isNon (.lst l) = false := id rfl
end
end DL
namespace DL
open PySem PySem.Spec PyProof.Rows L2
end DL
namespace DL
open PySem PySem.Spec PyProof.Rows L2
end DL
namespace DL
open PySem PySem.Spec PyProof.Rows L2
end DL
/-! ### where a token is out: x.replace(y, z) -/
namespace DL
open PySem PySem.Spec PyProof.Rows L2
end DL
/-! ### list * int -/
namespace DL
open PySem PySem.Spec PyProof.Rows L2
theorem reps.rep {S : Sx} {io : List Addr} {F : Hp} {l : List D} {xs : List V} (h : reps S io F l xs) : ∀ n : Nat, reps S io F (List.replicate n l).flatten (List.replicate n xs).flatten
  | 0 => .nil
  | n + 1 => by
    rw [List.replicate_succ, List.replicate_succ, List.flatten_cons, List.flatten_cons]
    exact h.append (h.rep n)
end DL
set_option maxHeartbeats 1000000
/-! ### a comprehension while an exception is handled -/
namespace L2P
open PySem PySem.Spec PyProof.Rows L2 L2H HotX
end L2P
set_option maxHeartbeats 1000000
/-! ### a def that is called while an exception is handled; what it promises may speak of that exception -/
namespace L2P
open PySem PySem.Spec PyProof.Rows L2 L2H HotX
end L2P
namespace DL
open PySem PySem.Spec PyProof.Rows L2 L2P L2H
/-! ### data while an exception is pinned -/
abbrev Sx.pin (S : Sx) (q : Addr × Obj) : Sx := ⟨S.K, S.A, S.n0, q :: S.pn, S.cls⟩
mutual
def noX : D → Bool
  | .tup l => noXs l | .lst l => noXs l | .dct _ l => noXs l | .obj _ _ l => noXs l
  | .exc _ _ _ => false
  | _ => true
def noXs : List D → Bool
  | [] => true
  | d :: l => noX d && noXs l
end
section
variable {S : Sx} {q : Addr × Obj} {io : List Addr} {F : Hp}
mutual
theorem rep_pin : ∀ (d : D) {v : V}, rep S io F d v → rep (S.pin q) io F d v
  | .tup l, v, h => by unfold rep at h ⊢; obtain ⟨a, xs, h1, h2, h3⟩ := h; exact ⟨a, xs, h1, h2, reps_pin l h3⟩
  | .lst l, v, h => by unfold rep at h ⊢; obtain ⟨a, xs, h1, h2, h3⟩ := h; exact ⟨a, xs, h1, h2, reps_pin l h3⟩
  | .dct ks l, v, h => by unfold rep at h ⊢; obtain ⟨a, xs, h1, h2, h3, h4⟩ := h; exact ⟨a, xs, h1, h2, h3, reps_pin l h4⟩
  | .obj c ns l, v, h => by unfold rep at h ⊢; obtain ⟨a, dx, xs, h1, h2, h3, h4, h5⟩ := h; exact ⟨a, dx, xs, h1, h2, h3, reps_pin l h4, h5⟩
  | .exc c ns l, v, h => by
    unfold rep at h ⊢
    obtain ⟨a, oe, d, h1, h2, h3, h4, h5⟩ := h
    exact ⟨a, oe, d, h1, List.mem_cons_of_mem _ h2, h3, h4, h5.imp id fun ⟨dd, fs, k1, k2, k3, k4⟩ => ⟨dd, fs, k1, k2, k3, reps_pin l k4⟩⟩
  | .non, v, h => by unfold rep at h ⊢; exact h
  | .txt, v, h => by unfold rep at h ⊢; exact h
  | .bl _, v, h => by unfold rep at h ⊢; exact h
  | .int _, v, h => by unfold rep at h ⊢; exact h
  | .str _, v, h => by unfold rep at h ⊢; exact h
  | .ty _, v, h => by unfold rep at h ⊢; exact h
  | .glo _, v, h => by unfold rep at h ⊢; exact h
  | .scr _, v, h => by unfold rep at h ⊢; exact h
  | .cel _, v, h => by unfold rep at h ⊢; exact h
theorem reps_pin : ∀ (l : List D) {xs : List V}, reps S io F l xs → reps (S.pin q) io F l xs
  | [], xs, h => by unfold reps at h ⊢; exact h
  | d :: l, xs, h => by
    unfold reps at h ⊢
    obtain ⟨x, r, h1, h2, h3⟩ := h
    exact ⟨x, r, h1, rep_pin d h2, reps_pin l h3⟩
end
mutual
theorem rep_unpin : ∀ (d : D) {v : V}, noX d = true → rep (S.pin q) io F d v → rep S io F d v
  | .tup l, v, n, h => by unfold noX at n; unfold rep at h ⊢; obtain ⟨a, xs, h1, h2, h3⟩ := h; exact ⟨a, xs, h1, h2, reps_unpin l n h3⟩
  | .lst l, v, n, h => by unfold noX at n; unfold rep at h ⊢; obtain ⟨a, xs, h1, h2, h3⟩ := h; exact ⟨a, xs, h1, h2, reps_unpin l n h3⟩
  | .dct ks l, v, n, h => by unfold noX at n; unfold rep at h ⊢; obtain ⟨a, xs, h1, h2, h3, h4⟩ := h; exact ⟨a, xs, h1, h2, h3, reps_unpin l n h4⟩
  | .obj c ns l, v, n, h => by unfold noX at n; unfold rep at h ⊢; obtain ⟨a, dx, xs, h1, h2, h3, h4, h5⟩ := h; exact ⟨a, dx, xs, h1, h2, h3, reps_unpin l n h4, h5⟩
  | .exc c ns l, v, n, h => by unfold noX at n; cases n
  | .non, v, n, h => by unfold rep at h ⊢; exact h
  | .txt, v, n, h => by unfold rep at h ⊢; exact h
  | .bl _, v, n, h => by unfold rep at h ⊢; exact h
  | .int _, v, n, h => by unfold rep at h ⊢; exact h
  | .str _, v, n, h => by unfold rep at h ⊢; exact h
  | .ty _, v, n, h => by unfold rep at h ⊢; exact h
  | .glo _, v, n, h => by unfold rep at h ⊢; exact h
  | .scr _, v, n, h => by unfold rep at h ⊢; exact h
  | .cel _, v, n, h => by unfold rep at h ⊢; exact h
theorem reps_unpin : ∀ (l : List D) {xs : List V}, noXs l = true → reps (S.pin q) io F l xs → reps S io F l xs
  | [], xs, n, h => by unfold reps at h ⊢; exact h
  | d :: l, xs, n, h => by
    unfold noXs at n
    have n' := Bool.and_eq_true_iff.mp n
    unfold reps at h ⊢
    obtain ⟨x, r, h1, h2, h3⟩ := h
    exact ⟨x, r, h1, rep_unpin d n'.1 h2, reps_unpin l n'.2 h3⟩
end
def noXM : M → Bool
  | .lst l => noXs l
  | .dct _ l => noXs l
  | .obj _ _ l => noXs l
  | .dead => true
def noXO : Option D → Bool
  | some d => noX d
  | none => true
theorem cell_pin {c : Cf} {a : Addr} : ∀ {m : M}, cellOk S c a m → cellOk (S.pin q) c a m
  | .lst l, ⟨h1, xs, h2, h3⟩ => ⟨h1, xs, h2, reps_pin l h3⟩
  | .dct ks l, ⟨h1, xs, h2, h3, h4⟩ => ⟨h1, xs, h2, h3, reps_pin l h4⟩
  | .obj x ns l, ⟨h1, dx, xs, h2, h3, h4⟩ => ⟨h1, dx, xs, h2, h3, reps_pin l h4⟩
  | .dead, h => h
theorem cell_unpin {c : Cf} {a : Addr} : ∀ {m : M}, noXM m = true → cellOk (S.pin q) c a m → cellOk S c a m
  | .lst l, n, ⟨h1, xs, h2, h3⟩ => ⟨h1, xs, h2, reps_unpin l n h3⟩
  | .dct ks l, n, ⟨h1, xs, h2, h3, h4⟩ => ⟨h1, xs, h2, h3, reps_unpin l n h4⟩
  | .obj x ns l, n, ⟨h1, dx, xs, h2, h3, h4⟩ => ⟨h1, dx, xs, h2, h3, reps_unpin l n h4⟩
  | .dead, n, h => h
theorem SI.pin {c : Cf} {μ : List M} (h : SI S c μ) : SI (S.pin q) c μ := ⟨h.ex, h.len, h.nd, fun i a m h1 h2 => cell_pin (h.cell i a m h1 h2), h.cls⟩
theorem SI.unpin {c : Cf} {μ : List M} (n : μ.all noXM = true) (h : SI (S.pin q) c μ) : SI S c μ :=
  ⟨h.ex, h.len, h.nd, fun i a m h1 h2 => cell_unpin (List.all_eq_true.mp n m (List.mem_of_getElem? h2)) (h.cell i a m h1 h2), h.cls⟩
theorem EnvOk.pin {c : Cf} {env : En} {σ : St} (h : EnvOk S c env σ) : EnvOk (S.pin q) c env σ := ⟨h.len, fun i d e => by
  obtain ⟨v, h1, h2⟩ := h.at_ i d e
  exact ⟨v, h1, rep_pin d h2⟩⟩
theorem EnvOk.unpin {c : Cf} {env : En} {σ : St} (n : env.all noXO = true) (h : EnvOk (S.pin q) c env σ) : EnvOk S c env σ := ⟨h.len, fun i d e => by
  obtain ⟨v, h1, h2⟩ := h.at_ i d e
  exact ⟨v, h1, rep_unpin d (List.all_eq_true.mp n (some d) (List.mem_of_getElem? e)) h2⟩⟩
theorem Step.pin {c c' : Cf} (s : Step (S.pin q) c c') : Step S c c' := ⟨s.pre, s.nd, s.exF, s.frz, s.keep, s.new, s.som⟩
end
end DL
set_option maxHeartbeats 1000000
/-! ### rules where an exception is handled -/
namespace L2H
open PySem PySem.Spec PyProof.Rows L2
theorem RoomH.units {k : Nat} {A : Around} (r : RoomH k A) : A.units + 64 < cLine := by have := r.un; omega
theorem roomH_mark {k : Nat} {A : Around} {h : Option Value} (r : Room k A) : RoomH k (A.mark h) := ⟨r.dp, r.un⟩
end L2H
namespace DL
open PySem PySem.Spec PyProof.Rows L2 L2P L2H
/-! what an exception is -/
def exSub (x : Str) : Ty → Bool
  | .inr u => x == u || u == "CellError"
  | .inl n => n == "ValueError"
def bIsX (xs : List Str) (u : Ty) (_ : List M) : List D → Option D
  | [.exc x _ _, c] => if clsD c = some u then (if xs.contains x then some (.bl (exSub x u)) else none) else none
  | _ => none
def exCB (K : PySem.W.Frag) (D : Addr) : Bool := He.eqO (PySem.W.findIn K (.ref D) "__getattribute__") (some (some (.builtin "BaseException.__getattribute__"))) && (He.eqO (PySem.W.findIn K (.ref D) "__getattr__") (some none) &&
  (decide (PySem.W.subIn K (.ref D) (.type "BaseException") = some true) && (PySem.W.hasDictIn K D && (He.eqO (PySem.W.findIn K (.ref D) "__class__") (some (some (.builtin "object.__class__"))) &&
  (He.eqO (PySem.W.specialIn K (.builtin "object.__class__") "__get__") (some (some (.builtin "getset_descriptor.__get__"))) && (decide (PySem.W.takesIn K (.builtin "object.__class__") = some true) && decide (PySem.W.mroIn K D (.type "object") = some true)))))))
theorem exCB_ok {K : PySem.W.Frag} {D : Addr} (h : exCB K D = true) : ExcC K D := by
  unfold exCB at h
  simp only [Bool.and_eq_true, decide_eq_true_eq] at h
  obtain ⟨h1, h2, h3, h4, h5, h6, h7, h8⟩ := h
  exact ⟨He.eqO_ok h1, He.eqO_ok h2, h3, h4, He.eqO_ok h5, He.eqO_ok h6, h7, h8⟩
/-- the exceptions' classes, for isinstance -/
structure ExcsF (S : Sx) (xs : List Str) (u : Ty) : Prop where
  c : ∀ x ∈ xs, ExcC S.K (S.A x)
  k : ∀ x ∈ xs, PySem.W.kitOne S.K (.ref (S.A x)) (tyv S u) = some (exSub x u)
/-- .. for an except clause -/
def ExmF (S : Sx) (xs : List Str) (u : Str) : Prop := ∀ x ∈ xs, PySem.W.exmOne S.K (.ref (S.A x)) (.ref (S.A u)) = some (exSub x (.inr u))
def excsB (S : Sx) (xs : List Str) (u : Ty) : Bool := xs.all fun x => exCB S.K (S.A x) && decide (PySem.W.kitOne S.K (.ref (S.A x)) (tyv S u) = some (exSub x u))
theorem excsB_ok {S : Sx} {xs : List Str} {u : Ty} (h : excsB S xs u = true) : ExcsF S xs u :=
  ⟨fun x m => exCB_ok (Bool.and_eq_true_iff.mp (List.all_eq_true.mp h x m)).1, fun x m => of_decide_eq_true (Bool.and_eq_true_iff.mp (List.all_eq_true.mp h x m)).2⟩
theorem excsB_at {S : Sx} {xs : List Str} {u : Ty} (h : excsB S xs u = true) (n : Nat) (p : Addr × Obj) : ExcsF ((at0 S n).pin p) xs u := ⟨(excsB_ok h).c, (excsB_ok h).k⟩
def exmB (S : Sx) (xs : List Str) (u : Str) : Bool := xs.all fun x => decide (PySem.W.exmOne S.K (.ref (S.A x)) (.ref (S.A u)) = some (exSub x (.inr u)))
theorem exmB_ok {S : Sx} {xs : List Str} {u : Str} (h : exmB S xs u = true) : ExmF S xs u := fun x m => of_decide_eq_true (List.all_eq_true.mp h x m)
/-- a pinned exception of the class D stands at a -/
def PinI (pn : List (Addr × Obj)) (H : Hp) (a D : Addr) : Prop := ∃ (oe : Obj) (d : Option Addr), (a, oe) ∈ pn ∧ Zc (.ref D) d oe ∧ (∃ vs, oe.data = .fields vs) ∧ (d = none ∨ ∃ dd fs, d = some dd ∧ H dd = some (.xd fs))
section
variable {X : Cx}
theorem isi_pinned {pins : List (Addr × Obj)} {σ : L2.St} {H : Hp} {s : Shared} {a D : Addr} (I : Inv X pins σ H s) (h : PinI X.pn H a D) (C : ExcC X.K D) : ∃ P : Heap → Prop, PySem.W.KitX X.K (.ref a) (.ref D) P ∧ P s.heap := by
  obtain ⟨oe, d, hp, hz, ⟨vs, hv⟩, hd⟩ := h
  have G := (I.pin (a, oe) (List.mem_append_left _ hp)).1
  have cl : (PySem.W.clsIn X.K D).isSome = true := by
    obtain ⟨cd, hc, _⟩ := PySem.W.any_some C.hd
    rw [hc]; rfl
  rcases hd with rfl | ⟨dd, fs, rfl, hf⟩
  · exact ⟨_, PySem.W.kitx_exc (ox := oe) (od := none) cl C.hg C.hk C.hs C.ha C.hn C.ht C.hm, ⟨G, hz.1, by unfold PySem.W.notCls; rw [hv] <;> rfl, by rw [hz.2]; trivial⟩⟩
  · have hx : ObjOk X.prog X.w H s.heap dd (.xd fs) := I.hok dd _ hf
    obtain ⟨mA, hns, hr⟩ := hx
    obtain ⟨od, ho, hl⟩ := lookIn_ns hns
    exact ⟨_, PySem.W.kitx_exc (ox := oe) (od := some od) cl C.hg C.hk C.hs C.ha C.hn C.ht C.hm, ⟨G, hz.1, by unfold PySem.W.notCls; rw [hv] <;> rfl, by rw [hz.2]; exact ho⟩⟩
theorem call_isX : CallR X (.builtin "isinstance") (fun xs H Q => ∃ (a D : Addr) (c : V) (cv : Value) (b : Bool), xs = [.ref a, c] ∧ PinI X.pn H a D ∧ ExcC X.K D ∧ ClsV c cv ∧ PySem.W.kitOne X.K (.ref D) cv = some b ∧ Q (.bl b) H) := by
  intro pins s σ H xs us Q I r h
  obtain ⟨a, D, c, cv, b, rfl, hp, C, hc, e, q⟩ := h
  obtain ⟨u1, u2, rfl, r1, r2⟩ := vals2 r
  cases r1
  have ec := hc.eq r2
  subst ec
  obtain ⟨P, Z, z⟩ := isi_pinned I hp C
  exact PySem.W.kia_one Z I.kIn z e (fun z => nomatch z) fun tk => ⟨.bl b, H, I.tok tk, rfl, q⟩
end
def exSubs (x : Str) (us : List Str) : Bool := us.any fun u => exSub x (.inr u)
def dIsXT (xs us : List Str) (da : DE) : DE := fun env μ => (da env μ).bind fun x μ1 => match x with
  | .exc x _ _ => if xs.contains x then .ok (.bl (exSubs x us)) μ1 else .stuck
  | _ => .stuck
section
variable {X : Cx} {S : Sx} {W : WX} {a b e tg : Expr} {es : List Expr} {da db d : DE} {dt : DT} {ds : DA} {pos p tpos : Pos} {k : Nat} {xs : List Str} {u : Ty}
theorem exc_at {c : Cf} {μ : List M} {x : Str} {ns : List Str} {l : List D} {v : V} {pn : List (Addr × Obj)} (hp : ∀ q ∈ S.pn, q ∈ pn) (I : SI S c μ) (r : rep S c.io c.F (.exc x ns l) v) : ∃ a, v = .ref a ∧ PinI pn c.H a (S.A x) := by
  unfold rep at r
  obtain ⟨a, oe, d, h1, h2, h3, h4, h5⟩ := r
  refine ⟨a, h1, oe, d, hp _ h2, h3, h4, ?_⟩
  rcases h5 with ⟨_, _, h⟩ | ⟨dd, fs, h, hf, _, _⟩
  · exact .inl h
  · exact .inr ⟨dd, fs, h, I.ex _ _ hf⟩
theorem PinI.up {pn : List (Addr × Obj)} {H H' : Hp} {a D : Addr} (h : PinI pn H a D) (k : ∀ b o, H b = some o → H' b = some o) : PinI pn H' a D := by
  obtain ⟨oe, d, h1, h2, h3, h4⟩ := h
  exact ⟨oe, d, h1, h2, h3, h4.imp id fun ⟨dd, fs, e, f⟩ => ⟨dd, fs, e, k _ _ f⟩⟩
theorem pb_isX (hK : X.K = S.K) (hp : ∀ q ∈ S.pn, q ∈ X.pn) (hF : ExcsF S xs u) : PDB X S (.builtin "isinstance") (bIsX xs u) := by
  refine ⟨_, call_isX, fun c μ vs l d Q I r e k => ?_⟩
  unfold bIsX at e
  split at e
  · rename_i x ns l' cc
    split at e
    · rename_i hc
      split at e
      · rename_i hx
        obtain rfl := Option.some.inj e
        obtain ⟨v, r0, rfl, r1, r2⟩ := r.uncons
        obtain ⟨v2, r0, rfl, r3, r4⟩ := r2.uncons
        rw [r4.eq_nil]
        obtain ⟨a, rfl, ha⟩ := exc_at hp I r1
        have m : x ∈ xs := List.contains_iff_mem.mp hx
        have cv : ClsV v2 (tyv S u) := by
          cases cc with
          | ty n => cases (show some (Sum.inl n : Ty) = some u from hc); rw [rep_ty.mp r3]; exact .ty n
          | glo y => cases (show some (Sum.inr y : Ty) = some u from hc); rw [rep_glo.mp r3]; exact .own _
          | _ => cases hc
        exact ⟨a, S.A x, v2, tyv S u, exSub x u, rfl, ha, by rw [hK]; exact hF.c x m, cv, by rw [hK]; exact hF.k x m, k _ c I.step I (rep_bl.mpr rfl)⟩
      · cases e
    · cases e
  · cases e
end
end DL
set_option maxHeartbeats 1000000
namespace DL
open PySem PySem.Spec PyProof.Rows L2 L2P L2H
/-! ### calls of a def from a suite; such a def -/
/-! ### try: .. except u as n: .. -/
def endX (i : Nat) : SO → SO
  | .nx e μ => if ((e.set i none).all noXO && μ.all noXM) = true then .nx (e.set i none) μ else .stuck
  | .bk e μ => if ((e.set i none).all noXO && μ.all noXM) = true then .bk (e.set i none) μ else .stuck
  | .ct e μ => if ((e.set i none).all noXO && μ.all noXM) = true then .ct (e.set i none) μ else .stuck
  | .rt d μ => if (noX d && μ.all noXM) = true then .rt d μ else .stuck
  | _ => .stuck
def dTry (xs : List Str) (u : Str) (i : Nat) (body suite : DS) : DS := fun env μ => match body env μ with
  | .ex x ns l e μ1 => if xs.contains x = true then (if exSub x (.inr u) = true then endX i (suite (e.set i (some (.exc x ns l))) μ1) else .ex x ns l e μ1) else .stuck
  | o => o
section
variable {X : Cx} {S : Sx} {W : WX}
theorem endX_run {c : Cf} {E : Ends} {q : Addr × Obj} {i : Nat} : ∀ {o : SO}, SQ S W c E (endX i o) → SQ (S.pin q) wNo c { nx := fun σ' H' => E.nx (σ'.set i none) H', rt := E.rt, bk := fun σ' H' => E.bk (σ'.set i none) H', ct := fun σ' H' => E.ct (σ'.set i none) H' } o
  | .nx e μ, h => fun σ' c' s I en => by
    dsimp only [endX] at h
    by_cases z : ((e.set i none).all noXO && μ.all noXM) = true
    · rw [if_pos z] at h
      obtain ⟨z1, z2⟩ := Bool.and_eq_true_iff.mp z
      exact h _ c' s.pin (I.unpin z2) ((en.del i).unpin z1)
    · rw [if_neg z] at h; exact h.elim
  | .bk e μ, h => fun σ' c' s I en => by
    dsimp only [endX] at h
    by_cases z : ((e.set i none).all noXO && μ.all noXM) = true
    · rw [if_pos z] at h
      obtain ⟨z1, z2⟩ := Bool.and_eq_true_iff.mp z
      exact h _ c' s.pin (I.unpin z2) ((en.del i).unpin z1)
    · rw [if_neg z] at h; exact h.elim
  | .ct e μ, h => fun σ' c' s I en => by
    dsimp only [endX] at h
    by_cases z : ((e.set i none).all noXO && μ.all noXM) = true
    · rw [if_pos z] at h
      obtain ⟨z1, z2⟩ := Bool.and_eq_true_iff.mp z
      exact h _ c' s.pin (I.unpin z2) ((en.del i).unpin z1)
    · rw [if_neg z] at h; exact h.elim
  | .rt d μ, h => fun v c' s I r => by
    dsimp only [endX] at h
    by_cases z : (noX d && μ.all noXM) = true
    · rw [if_pos z] at h
      obtain ⟨z1, z2⟩ := Bool.and_eq_true_iff.mp z
      exact h v c' s.pin (I.unpin z2) (rep_unpin d z1 r)
    · rw [if_neg z] at h; exact h.elim
  | .ex _ _ _ _ _, h => False.elim h
  | .stuck, h => False.elim h
def tSd (S : Sx) (W : WX) (d : DS) : TS := fun E σ H => ∃ env c μ, c.H = H ∧ SI S c μ ∧ EnvOk S c env σ ∧ SQ S W c E (d env μ)
theorem PDSs.psd {st : List Stmt} {d : DS} (h : PDSs X S W st d) : PSs X st (tSd S W d) := by
  obtain ⟨t, p, k⟩ := h.ex
  refine ⟨fun pins s σ H E I z => ?_⟩
  obtain ⟨env, c, μ, rfl, i, en, q⟩ := z
  exact p.run pins s σ _ E I (k env σ c μ E i en q)
theorem pds_try {xs : List Str} {u n : Str} {i : Nat} {body suite : List Stmt} {b₀ : Stmt} {np pos pos' : Pos} {db ds : DS} (hK : X.K = S.K) (hs : X.stack = X.env :: X.outer) (hf : X.env.frame = some X.env.locals) (hN : X.N.Nodup) (hi : X.N[i]? = some n) (hln : X.env.kindOf n = some .local)
    (hg : Gl X u) (hm : X.mg u = some (.ref (S.A u))) (hx : ExmF S xs u) (tk : L2M.Takes false X W)
    (hb : ∀ (W' : WX) (pn : List (Addr × Obj)) (xe : Value → Shared → Prop), L2M.Takes false (X.tr pn xe) W' → PassesOwn (model X.prog X.w) X.A X.env xe → PDSs (X.tr pn xe) S W' body db)
    (hsu : ∀ (a : Addr) (oe : Obj) (pn : List (Addr × Obj)), (∃ vs : Array Value, oe.data = .fields vs ∧ vs[2]? = some .none) → PDSs (X.suite a ((a, oe) :: pn)) (S.pin (a, oe)) wNo (b₀ :: suite) ds) (hdb : (u == ("__debug__" : Str)) = false := by decide) :
    PDS X S W (.Try body [.ExceptHandler (some (.Name u np)) (some n) (b₀ :: suite) pos'] [] [] pos) (dTry xs u i db ds) := by
  refine ⟨_, L2N.ps_try_as (tb := fun W' => tSd S W' db) (ts := fun a cls d E σ H => ∀ oe : Obj, L2N.Zn cls d oe → (∃ vs, oe.data = .fields vs) → tSd (S.pin (a, oe)) wNo ds E σ H) hs hf hN hi hln ⟨hg, hdb, .inl hm⟩ tk (fun W' pn xe tk' po => (hb W' pn xe tk' po).psd)
    (fun a oe cls d pn hz hv => ⟨fun pins s σ H E I h => ?_⟩), fun env σ c μ E I en q => ?_⟩
  · obtain ⟨vs, hv'⟩ := hv
    exact (hsu a oe pn ⟨vs, hv', hz.2.2 vs hv'⟩).psd.run pins s σ H E I (h oe hz ⟨vs, hv'⟩)
  · refine ⟨env, c, μ, rfl, I, en, ?_⟩
    unfold dTry at q
    cases e : db env μ with
    | nx e1 μ1 => rw [e] at q; exact q
    | bk e1 μ1 => rw [e] at q; exact q
    | ct e1 μ1 => rw [e] at q; exact q
    | rt d1 μ1 => rw [e] at q; exact q
    | stuck => rw [e] at q; exact q
    | ex x ns l e1 μ1 =>
      rw [e] at q
      dsimp only at q
      by_cases hm : xs.contains x = true
      · rw [if_pos hm] at q
        intro dd σ' c' s' I' en' xr
        have m : x ∈ xs := List.contains_iff_mem.mp hm
        refine ⟨exSub x (.inr u), by rw [hK]; exact hx x m, fun hb1 a na => ?_, fun hb0 => ?_⟩
        · rw [if_pos hb1] at q
          intro oe hz hv
          have r : rep (S.pin (a, oe)) c'.io c'.F (.exc x ns l) (.ref a) := by
            unfold rep
            refine ⟨a, oe, dd, rfl, List.mem_cons_self, hz.zc, hv, ?_⟩
            rcases xr with h | ⟨da, fs, h1, h2, h3, h4⟩
            · exact .inl h
            · exact .inr ⟨da, fs, h1, h2, h3, reps_pin l h4⟩
          exact ⟨e1.set i (some (.exc x ns l)), c', μ1, rfl, I'.pin, en'.pin.set r i, endX_run (SQ.step s' q)⟩
        · rw [if_neg (by rw [hb0]; exact Bool.false_ne_true)] at q
          exact q dd σ' c' s' I' en' xr
      · rw [if_neg hm] at q; exact q.elim
theorem hot_suite {a : Addr} {oe : Obj} (h : ∃ vs : Array Value, oe.data = .fields vs ∧ vs[2]? = some .none) : Hot1 (X.A.mark (some (.ref a))) (a, oe) := ⟨rfl, h⟩
end
end DL
namespace DL
open PySem PySem.Spec PyProof.Rows L2 L2P L2H
section
variable {X : Cx} {S : Sx} {W : WX}
theorem pds_tryH {xs : List Str} {u n : Str} {i : Nat} {body suite : List Stmt} {b₀ : Stmt} {np pos pos' : Pos} {db ds : DS} (h0 : S.pn = []) (hK : X.K = S.K) (hs : X.stack = X.env :: X.outer) (hf : X.env.frame = some X.env.locals) (hN : X.N.Nodup) (hi : X.N[i]? = some n) (hln : X.env.kindOf n = some .local)
    (hg : Gl X u) (hm : X.mg u = some (.ref (S.A u))) (hx : ExmF S xs u) (tk : L2M.Takes false X W)
    (hb : ∀ (W' : WX) (pn : List (Addr × Obj)) (xe : Value → Shared → Prop), L2M.Takes false (X.tr pn xe) W' → PassesOwn (model X.prog X.w) X.A X.env xe → PDSs (X.tr pn xe) S W' body db)
    (hsu : ∀ (a : Addr) (oe : Obj) (pn : List (Addr × Obj)), Hot1 (X.A.mark (some (.ref a))) (a, oe) → (a, oe) ∈ (X.suite a ((a, oe) :: pn)).pn → (∀ q ∈ (S.pin (a, oe)).pn, q ∈ (X.suite a ((a, oe) :: pn)).pn) → HotC (X.suite a ((a, oe) :: pn)) →
      PDSs (X.suite a ((a, oe) :: pn)) (S.pin (a, oe)) wNo (b₀ :: suite) ds) (hdb : (u == ("__debug__" : Str)) = false := by decide) :
    PDS X S W (.Try body [.ExceptHandler (some (.Name u np)) (some n) (b₀ :: suite) pos'] [] [] pos) (dTry xs u i db ds) :=
  pds_try hK hs hf hN hi hln hg hm hx tk hb (fun a oe pn hv => hsu a oe pn (hot_suite hv) List.mem_cons_self (fun q h => by
    have h : q ∈ (a, oe) :: S.pn := h
    rw [h0] at h
    rcases List.mem_cons.mp h with h | h
    · rw [h]; exact List.mem_cons_self
    · exact absurd h List.not_mem_nil) ⟨(a, oe), hot_suite hv, List.mem_cons_self⟩) hdb
end
end DL
namespace DL
open PySem PySem.Spec PyProof.Rows L2
mutual
theorem noX_clean : ∀ d : D, clean 0 d = true → noX d = true
  | .tup l, h => by unfold clean at h; unfold noX; exact noXs_clean l h
  | .lst l, h => by unfold clean at h; unfold noX; exact noXs_clean l h
  | .dct ks l, h => by unfold clean at h; unfold noX; exact noXs_clean l h
  | .obj c ns l, h => by unfold clean at h; unfold noX; exact noXs_clean l h
  | .exc c ns l, h => by unfold clean at h; cases h
  | .cel i, _ => rfl
  | .non, _ => rfl
  | .txt, _ => rfl
  | .bl _, _ => rfl
  | .int _, _ => rfl
  | .str _, _ => rfl
  | .ty _, _ => rfl
  | .glo _, _ => rfl
  | .scr _, _ => rfl
theorem noXs_clean : ∀ l : List D, cleans 0 l = true → noXs l = true
  | [], _ => rfl
  | d :: l, h => by
    unfold cleans at h
    have h' := Bool.and_eq_true_iff.mp h
    unfold noXs
    rw [noX_clean d h'.1, noXs_clean l h'.2]; rfl
end
theorem cln_noX {μ : List M} (h : Cln μ) : μ.all noXM = true := List.all_eq_true.mpr fun m hm => by
  have k := h m hm
  cases m with
  | lst l => exact noXs_clean l k
  | dct ks l => exact noXs_clean l k
  | obj c ns l => exact noXs_clean l k
  | dead => rfl
section
variable {X : XP} {μ m : List M} {env : En} {N : En → List M → Prop} {R : D → List M → Prop} {B C : En → List M → Prop} {Z : Str → List Str → List D → En → List M → Prop} {ks : Ks N R B C Z}
theorem s_endX {i : Nat} {o : SO} : WS (endX i o) N R B C Z ks = WS o (fun e m => (((e.set i none).all noXO && m.all noXM) = true ∧ N (e.set i none) m)) (fun d m => (noX d && m.all noXM) = true ∧ R d m)
    (fun e m => (((e.set i none).all noXO && m.all noXM) = true ∧ B (e.set i none) m)) (fun e m => (((e.set i none).all noXO && m.all noXM) = true ∧ C (e.set i none) m)) (fun _ _ _ _ _ => False) ⟨⟩ := by
  cases o with
  | nx e m =>
    show WS (if _ then _ else _) N R B C Z ks = (_ ∧ _)
    by_cases h : ((e.set i none).all noXO && m.all noXM) = true
    · rw [if_pos h]; exact propext ⟨fun q => ⟨h, q⟩, fun q => q.2⟩
    · rw [if_neg h]; exact propext ⟨fun q => q.elim, fun q => absurd q.1 h⟩
  | bk e m =>
    show WS (if _ then _ else _) N R B C Z ks = (_ ∧ _)
    by_cases h : ((e.set i none).all noXO && m.all noXM) = true
    · rw [if_pos h]; exact propext ⟨fun q => ⟨h, q⟩, fun q => q.2⟩
    · rw [if_neg h]; exact propext ⟨fun q => q.elim, fun q => absurd q.1 h⟩
  | ct e m =>
    show WS (if _ then _ else _) N R B C Z ks = (_ ∧ _)
    by_cases h : ((e.set i none).all noXO && m.all noXM) = true
    · rw [if_pos h]; exact propext ⟨fun q => ⟨h, q⟩, fun q => q.2⟩
    · rw [if_neg h]; exact propext ⟨fun q => q.elim, fun q => absurd q.1 h⟩
  | rt d m =>
    show WS (if _ then _ else _) N R B C Z ks = (_ ∧ _)
    by_cases h : (noX d && m.all noXM) = true
    · rw [if_pos h]; exact propext ⟨fun q => ⟨h, q⟩, fun q => q.2⟩
    · rw [if_neg h]; exact propext ⟨fun q => q.elim, fun q => absurd q.1 h⟩
  | ex x ns l e m => rfl
  | stuck => rfl
theorem s_try {xs : List Str} {u : Str} {i : Nat} {b s : DS} : WS (dTry xs u i b s env μ) N R B C Z ks = WS (b env μ) N R B C (fun x ns l e m => xs.contains x = true ∧ (if exSub x (.inr u) = true then WS (endX i (s (e.set i (some (.exc x ns l))) m)) N R B C Z ⟨⟩ else Z x ns l e m)) ⟨⟩ := by
  unfold dTry
  cases b env μ with
  | ex x ns l e m =>
    show WS (if _ then _ else _) N R B C Z ks = (_ ∧ _)
    by_cases h : xs.contains x = true
    · rw [if_pos h]
      by_cases h2 : exSub x (.inr u) = true
      · rw [if_pos h2, if_pos h2]; exact propext ⟨fun q => ⟨h, q⟩, fun q => q.2⟩
      · rw [if_neg h2, if_neg h2]; exact propext ⟨fun q => ⟨h, q⟩, fun q => q.2⟩
    · rw [if_neg h]; exact propext ⟨fun q => q.elim, fun q => absurd q.1 h⟩
  | _ => rfl
def isxt (xs us : List Str) : D → Option D
  | .exc x _ _ => if xs.contains x = true then some (.bl (exSubs x us)) else none
  | _ => none
theorem w_isXT {xs us : List Str} {da : DE} {Q : D → List M → Prop} {k : Kt Q X} : WO (dIsXT xs us da env μ) Q X k = WO (da env μ) (fun x m1 => OP (isxt xs us x) (fun d => Q d m1) ⟨⟩) X ⟨⟩ := by
  unfold dIsXT
  cases da env μ with
  | ok x m1 =>
    cases x with
    | exc x ns l =>
      show WO (if xs.contains x = true then Out.ok (D.bl (exSubs x us)) m1 else .stuck) Q X k = OP (if xs.contains x = true then some (D.bl (exSubs x us)) else none) (fun d => Q d m1) ⟨⟩
      by_cases h : xs.contains x = true
      · rw [if_pos h, if_pos h]; rfl
      · rw [if_neg h, if_neg h]; rfl
    | _ => rfl
  | ex _ _ _ _ => rfl
  | stuck => rfl
end
end DL
set_option maxHeartbeats 1000000
namespace DL
open PySem PySem.Spec PyProof.Rows L2 Builtin.Str
/-! ### str(x) of a tuple of two numbers: some text, which one is not known (a repr of it may be under way) -/
end DL
set_option maxHeartbeats 1000000
namespace DL
open PySem PySem.Spec PyProof.Rows L2
/-! ### B.__init__(self, ..), B an own class over ValueError that has no __init__ of its own -/
/-! ### C(..), C an own class over ValueError with an own __init__ -/
section
variable {X : Cx} {S : Sx} {W : WX} {md : Bool} {x : Str} {C fI : Addr} {k n : Nat} {fd : FuncData} {ps : List Str} {fl : List (Str × Nat)} {e : Expr} {es : List Expr} {p pos pos2 : Pos} {dd : List D} {ds : DA}
/-- raise C(..): the fields of C by its __init__ -/
def sRaiseI (x : Str) (n : Nat) (fl : List (Str × Nat)) (dd : List D) (ds : DA) : DS := fun env μ => (ds env μ).bindS env fun l μ1 => if (l ++ dd).length = n then (if l.length ≤ 1000 then .ex x (fl.map (·.1)) (fl.map fun p => (l ++ dd).getD p.2 .non) env μ1 else .stuck) else .stuck
end
/-! ### such an __init__ -/
/-! ### what a class must have, as a check -/
end DL
set_option maxHeartbeats 2000000
/-! ### try: .. except (A, B): .., where the suite is not come to: other exceptions pass -/
namespace DL
open PySem PySem.Spec PyProof.Rows L2
def dTryP (xs : List Str) (u1 u2 : Str) (body : DS) : DS := fun env μ => match body env μ with
  | .ex x ns l e μ1 => if (xs.contains x && (!exSub x (.inr u1) && !exSub x (.inr u2))) = true then .ex x ns l e μ1 else .stuck
  | o => o
end DL
set_option maxHeartbeats 1000000
namespace DL
open PySem PySem.Spec PyProof.Rows L2
/-! ### readings -/
section
variable {env : En} {μ : List M} {N : En → List M → Prop} {R : D → List M → Prop} {B C : En → List M → Prop} {Z : Str → List Str → List D → En → List M → Prop} {ks : Ks N R B C Z} {x u1 u2 : Str} {n : Nat} {fl : List (Str × Nat)} {dd : List D} {ds : DA} {xs : List Str} {b : DS}
theorem s_raiseI : WS (sRaiseI x n fl dd ds env μ) N R B C Z ks = WO (ds env μ) (fun l m => (l ++ dd).length = n ∧ l.length ≤ 1000 ∧ Z x (fl.map (·.1)) (fl.map fun p => (l ++ dd).getD p.2 .non) env m) (fun c ns l m => Z c ns l env m) ⟨⟩ := by
  unfold sRaiseI
  rw [w_bindS]
  refine wo_cong fun l m => ?_
  by_cases h : (l ++ dd).length = n
  · rw [if_pos h]
    by_cases h2 : l.length ≤ 1000
    · rw [if_pos h2]; exact propext ⟨fun q => ⟨h, h2, q⟩, fun q => q.2.2⟩
    · rw [if_neg h2]; exact propext ⟨fun q => q.elim, fun q => absurd q.2.1 h2⟩
  · rw [if_neg h]; exact propext ⟨fun q => q.elim, fun q => absurd q.1 h⟩
theorem s_tryP : WS (dTryP xs u1 u2 b env μ) N R B C Z ks = WS (b env μ) N R B C (fun x ns l e m => (xs.contains x && (!exSub x (.inr u1) && !exSub x (.inr u2))) = true ∧ Z x ns l e m) ⟨⟩ := by
  unfold dTryP
  cases b env μ with
  | ex x ns l e m =>
    show WS (if _ then _ else _) N R B C Z ks = (_ ∧ _)
    by_cases h : (xs.contains x && (!exSub x (.inr u1) && !exSub x (.inr u2))) = true
    · rw [if_pos h]; exact propext ⟨fun q => ⟨h, q⟩, fun q => q.2⟩
    · rw [if_neg h]; exact propext ⟨fun q => q.elim, fun q => absurd q.1 h⟩
  | _ => rfl
end
end DL
/-! ### a list, a dict among texts: none of them is equal to it -/
namespace PySem.SeqAt
open AutoSeq1 (wpAny_loadPart')
open MeetsSeq
end PySem.SeqAt
namespace DL
open PySem PySem.Spec PyProof.Rows L2
end DL
/-! ### the head's facts, with the classes' common record besides (reading an attribute off a class looks there) -/
namespace DL
open PySem PySem.Spec PyProof.Rows L2 He
end DL
namespace DL
open PySem PySem.Spec PyProof.Rows L2
/-! ### f'{x!r}' of an object whose class says how -/
theorem reprObj_own {prog : Program} {w : World} {A : Around} {E : Value → Shared → Prop} {s : Shared} {K : PySem.W.Frag} {x C L f : Addr} {h₀ : Heap} {m : Str → Option Value} {ox : Obj} {od : Option Obj}
    {Q : Value → Shared → Prop} (hu : A.units < cLine) (F : Fr h₀ L s.heap m) (X₀ : K.In h₀) (I : PySem.W.InstAt s.heap x ox C od) (hs : PySem.W.findIn K (.ref C) "__repr__" = some (some (.ref f))) (hf : PySem.W.isFn K (.ref f) = true)
    (h : wpAny (model prog w) A (call (.ref f) [.ref x]) (PySem.W.StrBack Q) E s) : wpAny (model prog w) A (pyReprObj (.ref x)) Q E s := by
  have XK := X₀.keeps F.keep
  unfold pyReprObj
  refine wpAny_bind (wpAny_cRoomFor hu ?_)
  refine wpAny_bind (wpAny_bind (PySem.W.Looks.here I.type (PySem.W.Looks.here (PySem.W.looks_findIn XK hs) ?_)))
  refine wpAny_bind (PySem.W.ifBound_K XK I hs hf (wpAny_mono h (fun r s' hr => ?_) fun _ _ e => e))
  cases r with
  | str a t => exact wpAny_bind (wpAny_isInstance (typeIs_str s' a t) isSubtype_str_str (wpAny_pure hr))
  | _ => exact hr.elim
section
variable {X : Cx} {S : Sx} {W : WX} {a b e : Expr} {da db d : DE} {pos p : Pos} {k : Nat} {C f : Addr} {fd : FuncData} {ps : List Str} {sp : Sp}
theorem reprF_core (F : FnOk X.prog X.w X.K X.mg X.base (L2M.CX md X.prog X.w) k f fd ps sp) (hr : Room (k + 2) X.A) (tk : L2M.Takes md X W) (hs : PySem.W.findIn X.K (.ref C) "__repr__" = some (some (.ref f))) (hf : PySem.W.isFn X.K (.ref f) = true) (hb : Binds X.K fd ps [])
    {pins : List (Addr × Obj)} {σ : L2.St} {H : Hp} {s : Shared} {q dx : Addr} {fs : List (Str × V)} {Q : VK} (I : Inv X pins σ H s) (hp : H q = some (.ins C dx fs)) (h : sp [.ref q] H (fun v H' => ∃ z : Str, v = .str z ∧ z.length ≤ sizeLine ∧ Q v H') (WE W σ)) :
    wpAny (model X.prog X.w) X.A (pyReprObj (.ref q)) (fun r s2 => wpAny (model X.prog X.w) X.A (formatField r Str.empty) (EP X pins σ Q) X.xe s2) X.xe s := by
  obtain ⟨mA, J, _⟩ := ins_get I.hok hp
  obtain ⟨od, J, _⟩ := J.look
  obtain ⟨m, hF⟩ := I.fr
  refine reprObj_own (hr.units0) hF I.ok.mod.kin J hs hf ?_
  refine wpAny_mono (run_atA (A' := X.A) rfl F (hr.mono (Nat.le_succ_of_le (Nat.le_succ _))) tk hb I (vs := [.ref q]) (.cons rfl .nil) h) (fun w s' hw => ?_) fun _ _ e => e
  obtain ⟨z, H', I', rz, y, rfl, hz, hq⟩ := hw
  obtain ⟨t, rfl⟩ := rz
  exact wpAny_formatField_str ⟨.str y, H', I', ⟨t, rfl⟩, hq⟩ ⟨.str y, H', I'.tok _, ⟨_, rfl⟩, hq⟩ hz
def dFmR (c : Str) (G : GF) (da : DE) : DE := fun env μ => (da env μ).bind fun x μ1 => if clsAt μ1 x = some c then (G [x] μ1).bind fun r μ2 => (match r with
  | .str z => if z.length ≤ 100000 then .ok (.str z) μ2 else .stuck
  | _ => .stuck) else .stuck
abbrev tFmRO (C : Addr) (sp : Sp) (W : WX) (ta : TE) : TE := fun σ H Q => ta σ H fun x H1 => ∃ q dx fs, [x] = [V.ref q] ∧ H1 q = some (.ins C dx fs) ∧ sp [x] H1 (fun v H' => ∃ z : Str, v = .str z ∧ z.length ≤ sizeLine ∧ Q v H') (WE W σ)
theorem fmR_run {c : Str} {G : GF} {ta : TE} (ka : ∀ env σ c μ Q, SI S c μ → EnvOk S c env σ → EQ S W σ c Q (da env μ) → ta σ c.H Q) :
    ∀ env σ c1 μ Q, SI S c1 μ → EnvOk S c1 env σ → EQ S W σ c1 Q (dFmR c G da env μ) → tFmRO (S.A c) (spD (at0 S 0) 1 G) W ta σ c1.H Q := by
  intro env σ c1 μ Q I en q
  refine (show ta σ c1.H fun x H1 => ∃ q dx fs, [x] = [V.ref q] ∧ H1 q = some (.ins (S.A c) dx fs) ∧ spD (at0 S 0) 1 G [x] H1 (fun v H' => ∃ z : Str, v = .str z ∧ z.length ≤ sizeLine ∧ Q v H') (WE W σ) from ?_)
  refine bindE (fun Q' => ka env σ c1 μ Q' I en) q fun x μ1 v c2 s1 I1 r1 q1 => ?_
  by_cases h : clsAt μ1 x = some c
  · rw [if_pos h] at q1
    obtain ⟨a, dx, fs, ns, l, rfl, h2, _⟩ := obj_at I1 r1 h
    refine ⟨a, dx, fs, rfl, h2, sp_at (l := [x]) (vs := [.ref a]) I1 (.cons r1 .nil) rfl ?_⟩
    cases e : G [x] μ1 with
    | ok r μ3 =>
      rw [e] at q1
      intro v' c' s' I' r'
      cases r with
      | str z =>
        have q1 : EQ S W σ c2 Q (if z.length ≤ 100000 then .ok (.str z) μ3 else .stuck) := q1
        by_cases hz : z.length ≤ 100000
        · rw [if_pos hz] at q1
          exact ⟨z, (rep_str.mp r').1, sz_of hz, q1 _ c' s' I' r'⟩
        · rw [if_neg hz] at q1
          exact q1.elim
      | _ => exact q1.elim
    | ex x' ns' l' μ3 => rw [e] at q1; exact q1
    | stuck => rw [e] at q1; exact q1
  · rw [if_neg h] at q1; exact q1.elim
variable {S0 : Sx} {n : Nat} {kr : Nat} {G : GF} {c : Str}
theorem pd_fmRO (hK : X.K = S0.K) (C : MetD md X.prog X.w X.K X.mg X.base (at0 S0 0) k c "__repr__" 1 G []) (hr : Room kr X.A) (hk : k + 2 ≤ kr) (tk : L2M.Takes md X W)
    (ha : PDE X (at0 S0 n) W a da) : PDE X (at0 S0 n) W (.FormattedValue a 114 none pos) (dFmR c G da) := by
  obtain ⟨f, fd, ps, h1, h2, h3, h4⟩ := met_parts (n := n) hK C (Nat.le_refl k)
  obtain ⟨ta, pa, ka⟩ := ha.ex
  refine ⟨_, ⟨fun pins s σ H Q I h => ?_⟩, fmR_run (S := at0 S0 n) ka⟩
  refine wpAny_FormattedValue_repr (thn (pa.run pins s σ H _ I h) fun v s1 hv => ?_)
  obtain ⟨x, H1, I1, r1, q, dx, fs, e, hq, q1⟩ := hv
  cases e
  cases r1
  exact reprF_core h1 (hr.mono hk) tk h2 h3 h4 I1 hq q1
/-! ### a choice of what an expression means -/
theorem pd_sel {P : DE → Prop} (h : ∀ d', P d' → PDE X S W e d') (hs : ∀ env μ, (∃ d', P d' ∧ d env μ = d' env μ) ∨ d env μ = .stuck) : PDE X S W e d := by
  refine ⟨fun σ H Q => ∃ d', ∃ m : P d', Classical.choose (h d' m).ex σ H Q, ⟨fun pins s σ H Q I ⟨d', m, q⟩ => (Classical.choose_spec (h d' m).ex).1.run pins s σ H Q I q⟩, fun env σ c μ Q I en q => ?_⟩
  rcases hs env μ with ⟨d', m, e⟩ | e
  · rw [e] at q; exact ⟨d', m, (Classical.choose_spec (h d' m).ex).2 env σ c μ Q I en q⟩
  · rw [e] at q; exact q.elim
theorem pdt_sel {d : DT} {P : DT → Prop} (h : ∀ d', P d' → PDT X S W e d') (hs : ∀ env μ, (∃ d', P d' ∧ d env μ = d' env μ) ∨ d env μ = .stuck) : PDT X S W e d := by
  refine ⟨fun σ H Q => ∃ d', ∃ m : P d', Classical.choose (h d' m).ex σ H Q, ⟨fun pins s σ H Q I ⟨d', m, q⟩ => (Classical.choose_spec (h d' m).ex).1.run pins s σ H Q I q⟩, fun env σ c μ Q I en q => ?_⟩
  rcases hs env μ with ⟨d', m, e⟩ | e
  · rw [e] at q; exact ⟨d', m, (Classical.choose_spec (h d' m).ex).2 env σ c μ Q I en q⟩
  · rw [e] at q; exact q.elim
theorem tb_nil {α : Type} {P : α → Prop} : ∀ x ∈ ([] : List α), P x := fun _ m => nomatch m
theorem tb_cons {α : Type} {P : α → Prop} {c : α} {cs : List α} (h : P c) (t : ∀ x ∈ cs, P x) : ∀ x ∈ c :: cs, P x := fun x m => (List.mem_cons.mp m).elim (fun e => by rw [e]; exact h) (t x)
def selT {α : Type} : List (Str × α) → Option Str → Option α
  | [], _ => none
  | (x, y) :: l, o => if o = some x then some y else selT l o
theorem selT_mem {α : Type} {y : α} {o : Option Str} : ∀ {l : List (Str × α)}, selT l o = some y → ∃ x, (x, y) ∈ l ∧ o = some x
  | [], h => by cases h
  | (x, z) :: l, h => by
    have h : (if o = some x then some z else selT l o) = some y := h
    by_cases e : o = some x
    · rw [if_pos e] at h; cases h; exact ⟨x, List.mem_cons_self, e⟩
    · rw [if_neg e] at h
      obtain ⟨x', m, e'⟩ := selT_mem h
      exact ⟨x', List.mem_cons_of_mem _ m, e'⟩
/-! x == y, x != y -/
def dOwns (tb : List (Str × GF)) (da db : DE) : DE := fun env μ => (da env μ).bind fun x μ1 => (db env μ1).bind fun y μ2 => match selT tb (clsAt μ2 x) with
  | some G => if (tagOf μ2 y).isSome = true then (G [x, y] μ2).bind fun r μ3 => (match r with
    | .bl b => .ok (.bl b) μ3
    | _ => .stuck) else .stuck
  | none => .stuck
def dNes (tb : List (Str × GF)) (da db : DE) : DE := fun env μ => (da env μ).bind fun x μ1 => (db env μ1).bind fun y μ2 => match selT tb (clsAt μ2 x) with
  | some G => if (tagOf μ2 y).isSome = true then (G [x, y] μ2).bind fun r μ3 => (match r with
    | .bl b => .ok (.bl (!b)) μ3
    | _ => .stuck) else .stuck
  | none => .stuck
def dObSs (tb : List (Str × GF)) (da : DE) : DE := fun env μ => (da env μ).bind fun x μ1 => match selT tb (clsAt μ1 x) with
  | some G => (G [x] μ1).bind fun r μ2 => (match r with
    | .str z => .ok (.str z) μ2
    | _ => .stuck)
  | none => .stuck
def dMeths (m : Str) (tb : List (Str × Nat × GF × List D)) (da : DE) (ds : DA) : DE := fun env μ => (da env μ).bind fun x μ1 => match selT tb (clsAt μ1 x) with
  | some (np, G, dd) => if (fldAt μ1 m x).isNone = true then (ds env μ1).bind fun l μ2 => if (x :: (l ++ dd)).length = np then G (x :: (l ++ dd)) μ2 else .stuck
    else .stuck
  | none => .stuck
theorem owns_at {tb : List (Str × GF)} (hn : tb ≠ []) {env : En} {μ : List M} : (∃ d', (∃ q ∈ tb, d' = dOwn q.1 q.2 da db) ∧ dOwns tb da db env μ = d' env μ) ∨ dOwns tb da db env μ = .stuck := by
  cases tb with
  | nil => exact absurd rfl hn
  | cons q0 tl =>
    generalize ht : q0 :: tl = tb
    have m0 : q0 ∈ tb := by rw [← ht]; exact List.mem_cons_self
    unfold dOwns
    cases e1 : da env μ with
    | ex _ _ _ _ => exact .inl ⟨_, ⟨q0, m0, rfl⟩, by unfold dOwn; rw [e1]; rfl⟩
    | stuck => exact .inr rfl
    | ok x μ1 =>
      cases e2 : db env μ1 with
      | ex _ _ _ _ => exact .inl ⟨_, ⟨q0, m0, rfl⟩, by unfold dOwn; rw [e1]; show _ = (db env μ1).bind _; rw [e2]; show (db env μ1).bind _ = _; rw [e2]; rfl⟩
      | stuck => exact .inr (by show (db env μ1).bind _ = _; rw [e2]; rfl)
      | ok y μ2 =>
        cases e3 : selT tb (clsAt μ2 x) with
        | none => exact .inr (by show (db env μ1).bind _ = _; rw [e2]; show (match selT tb (clsAt μ2 x) with | some G => _ | none => _) = _; rw [e3])
        | some G =>
          obtain ⟨c, m, hc⟩ := selT_mem e3
          refine .inl ⟨_, ⟨(c, G), m, rfl⟩, ?_⟩
          unfold dOwn
          rw [e1]
          show (db env μ1).bind _ = (db env μ1).bind _
          rw [e2]
          show (match selT tb (clsAt μ2 x) with | some G => _ | none => _) = (if clsAt μ2 x = some c ∧ (tagOf μ2 y).isSome = true then _ else _)
          rw [e3]
          by_cases ht : (tagOf μ2 y).isSome = true
          · rw [if_pos ⟨hc, ht⟩]; exact if_pos ht
          · rw [if_neg fun z => ht z.2]; exact if_neg ht
theorem nes_at {tb : List (Str × GF)} (hn : tb ≠ []) {env : En} {μ : List M} : (∃ d', (∃ q ∈ tb, d' = dNe q.1 q.2 da db) ∧ dNes tb da db env μ = d' env μ) ∨ dNes tb da db env μ = .stuck := by
  cases tb with
  | nil => exact absurd rfl hn
  | cons q0 tl =>
    generalize ht : q0 :: tl = tb
    have m0 : q0 ∈ tb := by rw [← ht]; exact List.mem_cons_self
    unfold dNes
    cases e1 : da env μ with
    | ex _ _ _ _ => exact .inl ⟨_, ⟨q0, m0, rfl⟩, by unfold dNe; rw [e1]; rfl⟩
    | stuck => exact .inr rfl
    | ok x μ1 =>
      cases e2 : db env μ1 with
      | ex _ _ _ _ => exact .inl ⟨_, ⟨q0, m0, rfl⟩, by unfold dNe; rw [e1]; show _ = (db env μ1).bind _; rw [e2]; show (db env μ1).bind _ = _; rw [e2]; rfl⟩
      | stuck => exact .inr (by show (db env μ1).bind _ = _; rw [e2]; rfl)
      | ok y μ2 =>
        cases e3 : selT tb (clsAt μ2 x) with
        | none => exact .inr (by show (db env μ1).bind _ = _; rw [e2]; show (match selT tb (clsAt μ2 x) with | some G => _ | none => _) = _; rw [e3])
        | some G =>
          obtain ⟨c, m, hc⟩ := selT_mem e3
          refine .inl ⟨_, ⟨(c, G), m, rfl⟩, ?_⟩
          unfold dNe
          rw [e1]
          show (db env μ1).bind _ = (db env μ1).bind _
          rw [e2]
          show (match selT tb (clsAt μ2 x) with | some G => _ | none => _) = (if clsAt μ2 x = some c ∧ (tagOf μ2 y).isSome = true then _ else _)
          rw [e3]
          by_cases ht : (tagOf μ2 y).isSome = true
          · rw [if_pos ⟨hc, ht⟩]; exact if_pos ht
          · rw [if_neg fun z => ht z.2]; exact if_neg ht
theorem obSs_at {tb : List (Str × GF)} (hn : tb ≠ []) {env : En} {μ : List M} : (∃ d', (∃ q ∈ tb, d' = dObS q.1 q.2 da) ∧ dObSs tb da env μ = d' env μ) ∨ dObSs tb da env μ = .stuck := by
  cases tb with
  | nil => exact absurd rfl hn
  | cons q0 tl =>
    generalize ht : q0 :: tl = tb
    have m0 : q0 ∈ tb := by rw [← ht]; exact List.mem_cons_self
    unfold dObSs
    cases e1 : da env μ with
    | ex _ _ _ _ => exact .inl ⟨_, ⟨q0, m0, rfl⟩, by unfold dObS; rw [e1]; rfl⟩
    | stuck => exact .inr rfl
    | ok x μ1 =>
      cases e3 : selT tb (clsAt μ1 x) with
      | none => exact .inr (by show (match selT tb (clsAt μ1 x) with | some G => _ | none => _) = _; rw [e3])
      | some G =>
        obtain ⟨c, m, hc⟩ := selT_mem e3
        refine .inl ⟨_, ⟨(c, G), m, rfl⟩, ?_⟩
        unfold dObS
        rw [e1]
        show (match selT tb (clsAt μ1 x) with | some G => _ | none => _) = (if clsAt μ1 x = some c then _ else _)
        rw [e3, if_pos hc] <;> rfl
theorem meths_at {m : Str} {tb : List (Str × Nat × GF × List D)} {ds : DA} (hn : tb ≠ []) {env : En} {μ : List M} : (∃ d', (∃ q ∈ tb, d' = dMeth q.1 m q.2.1 q.2.2.1 q.2.2.2 da ds) ∧ dMeths m tb da ds env μ = d' env μ) ∨ dMeths m tb da ds env μ = .stuck := by
  cases tb with
  | nil => exact absurd rfl hn
  | cons q0 tl =>
    generalize ht : q0 :: tl = tb
    have m0 : q0 ∈ tb := by rw [← ht]; exact List.mem_cons_self
    unfold dMeths
    cases e1 : da env μ with
    | ex _ _ _ _ => exact .inl ⟨_, ⟨q0, m0, rfl⟩, by unfold dMeth; rw [e1]; rfl⟩
    | stuck => exact .inr rfl
    | ok x μ1 =>
      cases e3 : selT tb (clsAt μ1 x) with
      | none => exact .inr (by show (match selT tb (clsAt μ1 x) with | some (np, G, dd) => _ | none => _) = _; rw [e3])
      | some t =>
        obtain ⟨np, G, dd⟩ := t
        obtain ⟨c, m', hc⟩ := selT_mem e3
        refine .inl ⟨_, ⟨(c, np, G, dd), m', rfl⟩, ?_⟩
        unfold dMeth
        rw [e1]
        show (match selT tb (clsAt μ1 x) with | some (np, G, dd) => _ | none => _) = (if clsAt μ1 x = some c ∧ (fldAt μ1 m x).isNone = true then _ else _)
        rw [e3]
        by_cases ht : (fldAt μ1 m x).isNone = true
        · rw [if_pos ⟨hc, ht⟩]; exact if_pos ht
        · rw [if_neg fun z => ht z.2]; exact if_neg ht
theorem pd_owns {tb : List (Str × GF)} (hn : tb ≠ []) (h : ∀ q ∈ tb, PDE X S W e (dOwn q.1 q.2 da db)) : PDE X S W e (dOwns tb da db) := pd_sel (P := fun d' => ∃ q ∈ tb, d' = dOwn q.1 q.2 da db) (fun d' ⟨q, m, e⟩ => e ▸ h q m) fun env μ => owns_at hn
theorem pd_nes {tb : List (Str × GF)} (hn : tb ≠ []) (h : ∀ q ∈ tb, PDE X S W e (dNe q.1 q.2 da db)) : PDE X S W e (dNes tb da db) := pd_sel (P := fun d' => ∃ q ∈ tb, d' = dNe q.1 q.2 da db) (fun d' ⟨q, m, e⟩ => e ▸ h q m) fun env μ => nes_at hn
theorem pd_obSs {tb : List (Str × GF)} (hn : tb ≠ []) (h : ∀ q ∈ tb, PDE X S W e (dObS q.1 q.2 da)) : PDE X S W e (dObSs tb da) := pd_sel (P := fun d' => ∃ q ∈ tb, d' = dObS q.1 q.2 da) (fun d' ⟨q, m, e⟩ => e ▸ h q m) fun env μ => obSs_at hn
theorem pd_meths {m : Str} {tb : List (Str × Nat × GF × List D)} {ds : DA} (hn : tb ≠ []) (h : ∀ q ∈ tb, PDE X S W e (dMeth q.1 m q.2.1 q.2.2.1 q.2.2.2 da ds)) : PDE X S W e (dMeths m tb da ds) := pd_sel (P := fun d' => ∃ q ∈ tb, d' = dMeth q.1 m q.2.1 q.2.2.1 q.2.2.2 da ds) (fun d' ⟨q, m, e⟩ => e ▸ h q m) fun env μ => meths_at hn
theorem pdt_owns {tb : List (Str × GF)} (hn : tb ≠ []) (h : ∀ q ∈ tb, PDT X S W e (dTst (dOwn q.1 q.2 da db))) : PDT X S W e (dTst (dOwns tb da db)) := pdt_sel (P := fun d' => ∃ q ∈ tb, d' = dTst (dOwn q.1 q.2 da db)) (fun d' ⟨q, m, e⟩ => e ▸ h q m) fun env μ => by
  rcases owns_at hn (da := da) (db := db) (env := env) (μ := μ) with ⟨d', ⟨q, m, rfl⟩, e⟩ | e
  · exact .inl ⟨_, ⟨q, m, rfl⟩, by unfold dTst; rw [e]⟩
  · exact .inr (by unfold dTst; rw [e]; rfl)
theorem pdt_nes {tb : List (Str × GF)} (hn : tb ≠ []) (h : ∀ q ∈ tb, PDT X S W e (dTst (dNe q.1 q.2 da db))) : PDT X S W e (dTst (dNes tb da db)) := pdt_sel (P := fun d' => ∃ q ∈ tb, d' = dTst (dNe q.1 q.2 da db)) (fun d' ⟨q, m, e⟩ => e ▸ h q m) fun env μ => by
  rcases nes_at hn (da := da) (db := db) (env := env) (μ := μ) with ⟨d', ⟨q, m, rfl⟩, e⟩ | e
  · exact .inl ⟨_, ⟨q, m, rfl⟩, by unfold dTst; rw [e]⟩
  · exact .inr (by unfold dTst; rw [e]; rfl)
/-! ### x += e, whole numbers -/
def sAug (i : Nat) (de : DE) : DS := fun env μ => match env[i]?.join with
  | some (.int z) => (de env μ).bindS env fun y μ1 => match y with
    | .int u => .nx (env.set i (some (.int (z + u)))) μ1
    | _ => .stuck
  | _ => .stuck
theorem pds_aug {i : Nat} {x : Str} {pos' : Pos} (hN : X.N.Nodup) (hi : X.N[i]? = some x) (hx : Loc X.env.scope x) (he : PDE X S W e d)
    (hf : X.fn x = true ∨ X.env.scope.names.lookup x = some .local := by first | exact .inl rfl | exact .inr rfl) : PDS X S W (.AugAssign (.Name x pos') .Add e pos) (sAug i d) := by
  obtain ⟨t, p, kk⟩ := he.ex
  refine ⟨_, ps_aug hN hi hx p ip_add hf, fun env σ c μ E I en q => ?_⟩
  unfold sAug at q
  cases e2 : env[i]? with
  | none => rw [e2] at q; exact q.elim
  | some o =>
    cases o with
    | none => rw [e2] at q; exact q.elim
    | some dv =>
      rw [e2] at q
      cases dv with
      | int z =>
        obtain ⟨v, hs, rv⟩ := en.at_ i _ e2
        have rv := rep_int.mp rv
        subst rv
        refine ⟨_, hs, ?_⟩
        refine (show t σ c.H (fun y H1 => ∃ j u, V.int z = .int j ∧ y = .int u ∧ E.nx (σ.set i (some (.int (j + u)))) H1) from ?_)
        refine bindES en (fun Q' => kk env σ c μ Q' I en) q fun y μ1 u c2 s1 I1 r1 q1 => ?_
        cases y with
        | int y => exact ⟨z, y, rfl, rep_int.mp r1, q1 _ c2 I1.step I1 ((en.step s1).set (rep_int.mpr rfl) i)⟩
        | _ => exact q1.elim
      | _ => exact q.elim
end
/-! ### readings -/
section
variable {X : XP} {N : En → List M → Prop} {R : D → List M → Prop} {B C : En → List M → Prop} {Z : Str → List Str → List D → En → List M → Prop} {ks : Ks N R B C Z} {env : En} {μ : List M} {Q : D → List M → Prop} {k : Kt Q X}
theorem w_fmR {c : Str} {G : GF} {da : DE} : WO (dFmR c G da env μ) Q X k = WO (da env μ) (fun x m1 => clsAt m1 x = some c ∧ WO (G [x] m1) (fun r m3 => OP (isS r) (fun z => z.length ≤ 100000 ∧ Q (.str z) m3) ⟨⟩) X ⟨⟩) X ⟨⟩ := by
  unfold dFmR
  rw [w_bind]
  refine wo_cong fun x m1 => ?_
  by_cases h : clsAt m1 x = some c
  · rw [if_pos h, w_bind]
    refine Eq.trans (wo_cong (Q' := fun r m3 => OP (isS r) (fun z => z.length ≤ 100000 ∧ Q (.str z) m3) ⟨⟩) fun r m3 => ?_) (propext ⟨fun q => ⟨h, q⟩, fun q => q.2⟩)
    cases r with
    | str z =>
      show WO (if z.length ≤ 100000 then .ok (.str z) m3 else .stuck) Q X ⟨⟩ = (z.length ≤ 100000 ∧ Q (.str z) m3)
      by_cases hz : z.length ≤ 100000
      · rw [if_pos hz]; exact propext ⟨fun q => ⟨hz, q⟩, fun q => q.2⟩
      · rw [if_neg hz]; exact propext ⟨fun q => q.elim, fun q => absurd q.1 hz⟩
    | _ => rfl
  · rw [if_neg h]; exact propext ⟨fun q => q.elim, fun q => absurd q.1 h⟩
theorem w_owns {tb : List (Str × GF)} {da db : DE} : WO (dOwns tb da db env μ) Q X k = WO (da env μ) (fun x m1 => WO (db env m1) (fun y m2 => OP (selT tb (clsAt m2 x)) (fun G => (tagOf m2 y).isSome = true ∧ WO (G [x, y] m2) (fun r m3 => OP (isB r) (fun b => Q (.bl b) m3) ⟨⟩) X ⟨⟩) ⟨⟩) X ⟨⟩) X ⟨⟩ := by
  unfold dOwns
  rw [w_bind]
  refine wo_cong fun x m1 => ?_
  rw [w_bind]
  refine wo_cong fun y m2 => ?_
  cases selT tb (clsAt m2 x) with
  | none => rfl
  | some G =>
    show WO (if (tagOf m2 y).isSome = true then (G [x, y] m2).bind _ else .stuck) Q X ⟨⟩ = ((tagOf m2 y).isSome = true ∧ WO (G [x, y] m2) (fun r m3 => OP (isB r) (fun b => Q (.bl b) m3) ⟨⟩) X ⟨⟩)
    by_cases h : (tagOf m2 y).isSome = true
    · rw [if_pos h, w_bind]
      refine Eq.trans (wo_cong (Q' := fun r m3 => OP (isB r) (fun b => Q (.bl b) m3) ⟨⟩) fun r m3 => ?_) (propext ⟨fun q => ⟨h, q⟩, fun q => q.2⟩)
      cases r <;> rfl
    · rw [if_neg h]; exact propext ⟨fun q => q.elim, fun q => absurd q.1 h⟩
theorem w_nes {tb : List (Str × GF)} {da db : DE} : WO (dNes tb da db env μ) Q X k = WO (da env μ) (fun x m1 => WO (db env m1) (fun y m2 => OP (selT tb (clsAt m2 x)) (fun G => (tagOf m2 y).isSome = true ∧ WO (G [x, y] m2) (fun r m3 => OP (isB r) (fun b => Q (.bl (!b)) m3) ⟨⟩) X ⟨⟩) ⟨⟩) X ⟨⟩) X ⟨⟩ := by
  unfold dNes
  rw [w_bind]
  refine wo_cong fun x m1 => ?_
  rw [w_bind]
  refine wo_cong fun y m2 => ?_
  cases selT tb (clsAt m2 x) with
  | none => rfl
  | some G =>
    show WO (if (tagOf m2 y).isSome = true then (G [x, y] m2).bind _ else .stuck) Q X ⟨⟩ = ((tagOf m2 y).isSome = true ∧ WO (G [x, y] m2) (fun r m3 => OP (isB r) (fun b => Q (.bl (!b)) m3) ⟨⟩) X ⟨⟩)
    by_cases h : (tagOf m2 y).isSome = true
    · rw [if_pos h, w_bind]
      refine Eq.trans (wo_cong (Q' := fun r m3 => OP (isB r) (fun b => Q (.bl (!b)) m3) ⟨⟩) fun r m3 => ?_) (propext ⟨fun q => ⟨h, q⟩, fun q => q.2⟩)
      cases r <;> rfl
    · rw [if_neg h]; exact propext ⟨fun q => q.elim, fun q => absurd q.1 h⟩
theorem w_obSs {tb : List (Str × GF)} {da : DE} : WO (dObSs tb da env μ) Q X k = WO (da env μ) (fun x m1 => OP (selT tb (clsAt m1 x)) (fun G => WO (G [x] m1) (fun r m3 => OP (isS r) (fun z => Q (.str z) m3) ⟨⟩) X ⟨⟩) ⟨⟩) X ⟨⟩ := by
  unfold dObSs
  rw [w_bind]
  refine wo_cong fun x m1 => ?_
  cases selT tb (clsAt m1 x) with
  | none => rfl
  | some G =>
    show WO ((G [x] m1).bind _) Q X ⟨⟩ = WO (G [x] m1) (fun r m3 => OP (isS r) (fun z => Q (.str z) m3) ⟨⟩) X ⟨⟩
    rw [w_bind]
    refine wo_cong fun r m3 => ?_
    cases r <;> rfl
theorem w_meths {m : Str} {tb : List (Str × Nat × GF × List D)} {da : DE} {ds : DA} : WO (dMeths m tb da ds env μ) Q X k = WO (da env μ) (fun x m1 => OP (selT tb (clsAt m1 x)) (fun t => (fldAt m1 m x).isNone = true ∧ WO (ds env m1) (fun l m2 => (x :: (l ++ t.2.2)).length = t.1 ∧ WO (t.2.1 (x :: (l ++ t.2.2)) m2) Q X ⟨⟩) X ⟨⟩) ⟨⟩) X ⟨⟩ := by
  unfold dMeths
  rw [w_bind]
  refine wo_cong fun x m1 => ?_
  cases selT tb (clsAt m1 x) with
  | none => rfl
  | some t =>
    obtain ⟨np, G, dd⟩ := t
    show WO (if (fldAt m1 m x).isNone = true then (ds env m1).bind _ else .stuck) Q X ⟨⟩ = ((fldAt m1 m x).isNone = true ∧ WO (ds env m1) (fun l m2 => (x :: (l ++ dd)).length = np ∧ WO (G (x :: (l ++ dd)) m2) Q X ⟨⟩) X ⟨⟩)
    by_cases h : (fldAt m1 m x).isNone = true
    · rw [if_pos h, w_bind]
      refine Eq.trans (wo_cong (Q' := fun l m2 => (x :: (l ++ dd)).length = np ∧ WO (G (x :: (l ++ dd)) m2) Q X ⟨⟩) fun l m2 => ?_) (propext ⟨fun q => ⟨h, q⟩, fun q => q.2⟩)
      by_cases hl : (x :: (l ++ dd)).length = np
      · rw [if_pos hl]; exact propext ⟨fun q => ⟨hl, q⟩, fun q => q.2⟩
      · rw [if_neg hl]; exact propext ⟨fun q => q.elim, fun q => absurd q.1 hl⟩
    · rw [if_neg h]; exact propext ⟨fun q => q.elim, fun q => absurd q.1 h⟩
theorem s_aug {i : Nat} {de : DE} {z : Int} (h : env[i]? = some (some (.int z))) : WS (sAug i de env μ) N R B C Z ks = WO (de env μ) (fun y m => OP (isI y) (fun u => N (env.set i (some (.int (z + u)))) m) ⟨⟩) (fun c ns l m => Z c ns l env m) ⟨⟩ := by
  unfold sAug
  rw [h]
  show WS ((de env μ).bindS env _) N R B C Z ks = _
  rw [w_bindS]
  refine wo_cong fun y m => ?_
  cases y <;> rfl
end
end DL
namespace PG
open PySem PySem.Spec PyProof.Rows L2 DL
def dfl_law_well : List D := []
def dfl_law_draw : List D := []
noncomputable def D_is_whole : DS :=
  (sRet (dAnd (dBlt (bIsU (.inl "int")) (aCons (dVar 0) (aCons (dC (.ty "int")) aNil))) (dNot (dBlt (bIsU (.inl "bool")) (aCons (dVar 0) (aCons (dC (.ty "bool")) aNil))))))
def dfl_is_whole : List D := []
noncomputable def G_is_whole : GF := fnG 1 1 D_is_whole
noncomputable def D_is_count : DS :=
  (sRet (dAnd (dCall 1 G_is_whole (List.drop 0 dfl_is_whole) (aCons (dVar 0) aNil)) (dOp opGe (dVar 0) (dC (.int 1)))))
def dfl_is_count : List D := []
noncomputable def G_is_count : GF := fnG 1 1 D_is_count
noncomputable def D_is_end : DS :=
  (sRet (dOr (dOp opIs (dVar 1) (dC .non)) (dAnd (dCall 1 G_is_count (List.drop 0 dfl_is_count) (aCons (dVar 1) aNil)) (dOp opGe (dVar 1) (dVar 0)))))
def dfl_is_end : List D := []
noncomputable def G_is_end : GF := fnG 2 2 D_is_end
noncomputable def D_Block_init__ : DS :=
  (sSeq (sIf (tOr2 (tNot2 (dTru (dCall 1 G_is_count (List.drop 0 dfl_is_count) (aCons (dVar 1) aNil)))) (tOr2 (tNot2 (dTru (dCall 1 G_is_count (List.drop 0 dfl_is_count) (aCons (dVar 2) aNil)))) (tOr2 (tNot2 (dTru (dCall 2 G_is_end (List.drop 0 dfl_is_end) (aCons (dVar 1) (aCons (dVar 3) aNil))))) (tNot2 (dTru (dCall 2 G_is_end (List.drop 0 dfl_is_end) (aCons (dVar 2) (aCons (dVar 4) aNil))))))))
    (sRaise "NoBlock")
    sNil)
    (sSeq (sFldSet "top" (dVar 0) (dVar 1))
    (sSeq (sFldSet "left" (dVar 0) (dVar 2))
    (sSeq (sFldSet "bottom" (dVar 0) (dVar 3))
    (sFldSet "right" (dVar 0) (dVar 4))))))
def dfl_Block_init__ : List D := [(.int 1), (.int 1), .non, .non]
noncomputable def G_Block_init__ : GF := fnG 5 5 D_Block_init__
def dfl_is_cell : List D := []
def dfl_checked_cell : List D := []
def dfl_Block_has : List D := []
def dfl_Block_size : List D := []
noncomputable def D_Block_eq__ : DS :=
  (sSeq (sIf (tNot2 (dTru (dBlt (bIsU (.inr "Block")) (aCons (dVar 1) (aCons (dC (.glo "Block")) aNil)))))
    (sRet (dC (.bl false)))
    sNil)
    (sSeq (sAsg (dTup (aCons (dFld "top" (dVar 0)) (aCons (dFld "left" (dVar 0)) (aCons (dFld "bottom" (dVar 0)) (aCons (dFld "right" (dVar 0)) aNil))))) (gNm 2))
    (sRet (dOp opEq (dVar 2) (dTup (aCons (dFld "top" (dVar 1)) (aCons (dFld "left" (dVar 1)) (aCons (dFld "bottom" (dVar 1)) (aCons (dFld "right" (dVar 1)) aNil)))))))))
def dfl_Block_eq__ : List D := []
noncomputable def G_Block_eq__ : GF := fnG 3 2 D_Block_eq__
def dfl_row_text : List D := []
def dfl_letters_of : List D := []
def dfl_column_text : List D := []
def dfl_is_rows : List D := []
def dfl_is_columns : List D := []
def dfl_letters_ahead : List D := []
def dfl_by_ends : List D := []
def dfl_Block_str__ : List D := []
noncomputable def D_Block_repr__ : DS :=
  (sRet (dFs [(dC (.str "Block(")), (dFmt (dFld "top" (dVar 0))), (dC (.str ", ")), (dFmt (dFld "left" (dVar 0))), (dC (.str ", ")), (dFmt (dFld "bottom" (dVar 0))), (dC (.str ", ")), (dFmt (dFld "right" (dVar 0))), (dC (.str ")"))]))
def dfl_Block_repr__ : List D := []
noncomputable def G_Block_repr__ : GF := fnG 1 1 D_Block_repr__
noncomputable def D_law_source : DS :=
  (sRetC (aCons (dVar 0) (aCons (dVar 0) (aCons (dC (.int 0)) aNil))))
def dfl_law_source : List D := []
noncomputable def G_law_source : GN := fnN 1 1 D_law_source
noncomputable def D_law_mixed : DS :=
  (sSeq (sAsg (dOp opAdd (dOp opAdd (dOp opAdd (dOp opMod (dVar 0) (dC (.int 2147483629))) (dOp opMul (dOp opDiv (dVar 0) (dC (.int 2147483629))) (dC (.int 30011)))) (dOp opMul (dC (.int 69621)) (dVar 1))) (dC (.int 1))) (gNm 2))
    (sSeq (sAsg (dOp opMod (dOp opMul (dVar 2) (dC (.int 48271))) (dC (.int 2147483629))) (gNm 2))
    (sSeq (sAsg (dOp opMod (dOp opMul (dVar 2) (dOp opAdd (dOp opAdd (dOp opDiv (dVar 2) (dC (.int 907))) (dC (.int 16831))) (dVar 1))) (dC (.int 2147483587))) (gNm 2))
    (sRet (dOp opMod (dOp opMul (dVar 2) (dOp opAdd (dOp opDiv (dVar 2) (dC (.int 1201))) (dC (.int 30011)))) (dC (.int 2147483563)))))))
def dfl_law_mixed : List D := []
noncomputable def G_law_mixed : GF := fnG 3 2 D_law_mixed
noncomputable def D_law_next : DS :=
  (sSeq (sIf (dTst (dOp opGe (dOp opIx (dVar 0) (dC (.int 0))) (dOp opPow (dC (.int 10)) (dC (.int 18)))))
    (sSeq (sAsg (dOp opMod (dOp opIx (dVar 0) (dC (.int 0))) (dVar 1)) (gNm 2))
    (sSeq (sSetIx (dOp opDiv (dOp opIx (dVar 0) (dC (.int 0))) (dVar 1)) (dVar 0) (dC (.int 0)))
    (sRet (dVar 2))))
    sNil)
    (sSeq (sSetIx (dOp opAdd (dOp opIx (dVar 0) (dC (.int 2))) (dC (.int 1))) (dVar 0) (dC (.int 2)))
    (sRet (dOp opMod (dCall 2 G_law_mixed (List.drop 0 dfl_law_mixed) (aCons (dOp opIx (dVar 0) (dC (.int 1))) (aCons (dOp opIx (dVar 0) (dC (.int 2))) aNil))) (dVar 1)))))
def dfl_law_next : List D := []
noncomputable def G_law_next : GF := fnG 3 2 D_law_next
noncomputable def D_law_number_k31 : DS :=
  (sRet (dOp opAdd (dC (.int 1)) (dCall 2 G_law_next (List.drop 0 dfl_law_next) (aCons (dVar 0) (aCons (dOp opIx (dLst (aCons (dC (.int 4)) (aCons (dC (.int 40)) (aCons (dOp opPow (dC (.int 10)) (dC (.int 11))) aNil)))) (dCall 2 G_law_next (List.drop 0 dfl_law_next) (aCons (dVar 0) (aCons (dC (.int 3)) aNil)))) aNil)))))
def dfl_law_number_k31 : List D := []
noncomputable def G_law_number_k31 : GF := fnG 1 1 D_law_number_k31
noncomputable def D_Change_checked : DS :=
  (sIf (tNot2 (dTru (dBlt bAll (aCons (dLcF (iAny (dVar 1)) (gNm 2) tYes' (dCall 1 G_is_count (List.drop 0 dfl_is_count) (aCons (dVar 2) aNil)) [2]) aNil))))
    (sRaise "NoChange")
    sNil)
def dfl_Change_checked : List D := []
noncomputable def G_Change_checked : GF := fnG 3 2 D_Change_checked
noncomputable def D_PutRows_init__ : DS :=
  (sSeq (sExp (dMeth "PutRows" "checked" 2 G_Change_checked (List.drop 0 dfl_Change_checked) (dVar 0) (aCons (dLst (aCons (dVar 1) (aCons (dVar 2) aNil))) aNil)))
    (sSeq (sFldSet "at" (dVar 0) (dVar 1))
    (sFldSet "many" (dVar 0) (dVar 2))))
def dfl_PutRows_init__ : List D := [(.int 1)]
noncomputable def G_PutRows_init__ : GF := fnG 3 3 D_PutRows_init__
noncomputable def D_TakeRows_init__ : DS :=
  (sSeq (sExp (dMeth "TakeRows" "checked" 2 G_Change_checked (List.drop 0 dfl_Change_checked) (dVar 0) (aCons (dLst (aCons (dVar 1) (aCons (dVar 2) aNil))) aNil)))
    (sSeq (sFldSet "at" (dVar 0) (dVar 1))
    (sFldSet "many" (dVar 0) (dVar 2))))
def dfl_TakeRows_init__ : List D := [(.int 1)]
noncomputable def G_TakeRows_init__ : GF := fnG 3 3 D_TakeRows_init__
noncomputable def D_PutColumns_init__ : DS :=
  (sSeq (sExp (dMeth "PutColumns" "checked" 2 G_Change_checked (List.drop 0 dfl_Change_checked) (dVar 0) (aCons (dLst (aCons (dVar 1) (aCons (dVar 2) aNil))) aNil)))
    (sSeq (sFldSet "at" (dVar 0) (dVar 1))
    (sFldSet "many" (dVar 0) (dVar 2))))
def dfl_PutColumns_init__ : List D := [(.int 1)]
noncomputable def G_PutColumns_init__ : GF := fnG 3 3 D_PutColumns_init__
noncomputable def D_TakeColumns_init__ : DS :=
  (sSeq (sExp (dMeth "TakeColumns" "checked" 2 G_Change_checked (List.drop 0 dfl_Change_checked) (dVar 0) (aCons (dLst (aCons (dVar 1) (aCons (dVar 2) aNil))) aNil)))
    (sSeq (sFldSet "at" (dVar 0) (dVar 1))
    (sFldSet "many" (dVar 0) (dVar 2))))
def dfl_TakeColumns_init__ : List D := [(.int 1)]
noncomputable def G_TakeColumns_init__ : GF := fnG 3 3 D_TakeColumns_init__
noncomputable def D_law_lines : DS :=
  (sSeq (sIf (dTst (dOp opEq (dVar 0) (dC (.int 0))))
    (sRet (dMake "PutRows" 3 G_PutRows_init__ (List.drop 1 dfl_PutRows_init__) (aCons (dVar 1) (aCons (dVar 2) aNil))))
    sNil)
    (sSeq (sIf (dTst (dOp opEq (dVar 0) (dC (.int 1))))
    (sRet (dMake "TakeRows" 3 G_TakeRows_init__ [] (aPick 0 (List.length (["many", "at"] : List Str)) [1, 0] dfl_TakeRows_init__ aNil (aCons (dVar 2) (aCons (dVar 1) aNil)))))
    sNil)
    (sSeq (sIf (dTst (dOp opEq (dVar 0) (dC (.int 2))))
    (sRet (dMake "PutColumns" 3 G_PutColumns_init__ [] (aPick 1 (List.length (["many"] : List Str)) [0, 1] dfl_PutColumns_init__ (aCons (dVar 1) aNil) (aCons (dVar 2) aNil))))
    sNil)
    (sRet (dMake "TakeColumns" 3 G_TakeColumns_init__ (List.drop 1 dfl_TakeColumns_init__) (aCons (dVar 1) (aCons (dVar 2) aNil)))))))
def dfl_law_lines : List D := []
noncomputable def G_law_lines : GF := fnG 3 3 D_law_lines
noncomputable def D_TakeColumns_repr__ : DS :=
  (sRet (dFs [(dC (.str "TakeColumns(")), (dFmt (dFld "at" (dVar 0))), (dC (.str ", ")), (dFmt (dFld "many" (dVar 0))), (dC (.str ")"))]))
def dfl_TakeColumns_repr__ : List D := []
noncomputable def G_TakeColumns_repr__ : GF := fnG 1 1 D_TakeColumns_repr__
noncomputable def D_PutColumns_repr__ : DS :=
  (sRet (dFs [(dC (.str "PutColumns(")), (dFmt (dFld "at" (dVar 0))), (dC (.str ", ")), (dFmt (dFld "many" (dVar 0))), (dC (.str ")"))]))
def dfl_PutColumns_repr__ : List D := []
noncomputable def G_PutColumns_repr__ : GF := fnG 1 1 D_PutColumns_repr__
noncomputable def D_TakeRows_repr__ : DS :=
  (sRet (dFs [(dC (.str "TakeRows(")), (dFmt (dFld "at" (dVar 0))), (dC (.str ", ")), (dFmt (dFld "many" (dVar 0))), (dC (.str ")"))]))
def dfl_TakeRows_repr__ : List D := []
noncomputable def G_TakeRows_repr__ : GF := fnG 1 1 D_TakeRows_repr__
noncomputable def D_PutRows_repr__ : DS :=
  (sRet (dFs [(dC (.str "PutRows(")), (dFmt (dFld "at" (dVar 0))), (dC (.str ", ")), (dFmt (dFld "many" (dVar 0))), (dC (.str ")"))]))
def dfl_PutRows_repr__ : List D := []
noncomputable def G_PutRows_repr__ : GF := fnG 1 1 D_PutRows_repr__
noncomputable def D_law_kinds : DS :=
  (sSeq (sAsg (dLst (aCons (dBlt (bIsU (.inr "PutRows")) (aCons (dVar 0) (aCons (dC (.glo "PutRows")) aNil))) (aCons (dBlt (bIsU (.inr "TakeRows")) (aCons (dVar 0) (aCons (dC (.glo "TakeRows")) aNil))) (aCons (dBlt (bIsU (.inr "PutColumns")) (aCons (dVar 0) (aCons (dC (.glo "PutColumns")) aNil))) aNil)))) (gNm 1))
    (sRet (dOp opAdd (dVar 1) (dLst (aCons (dBlt (bIsU (.inr "TakeColumns")) (aCons (dVar 0) (aCons (dC (.glo "TakeColumns")) aNil))) (aCons (dBlt (bIsU (.inr "Move")) (aCons (dVar 0) (aCons (dC (.glo "Move")) aNil))) (aCons (dBlt (bIsU (.inr "Change")) (aCons (dVar 0) (aCons (dC (.glo "Change")) aNil))) aNil)))))))
def dfl_law_kinds : List D := []
noncomputable def G_law_kinds : GF := fnG 2 1 D_law_kinds
noncomputable def D_TakeColumns_undoing : DS :=
  (sRet (dMake "PutColumns" 3 G_PutColumns_init__ (List.drop 1 dfl_PutColumns_init__) (aCons (dFld "at" (dVar 0)) (aCons (dFld "many" (dVar 0)) aNil))))
def dfl_TakeColumns_undoing : List D := []
noncomputable def G_TakeColumns_undoing : GF := fnG 1 1 D_TakeColumns_undoing
noncomputable def D_PutColumns_undoing : DS :=
  (sRet (dMake "TakeColumns" 3 G_TakeColumns_init__ (List.drop 1 dfl_TakeColumns_init__) (aCons (dFld "at" (dVar 0)) (aCons (dFld "many" (dVar 0)) aNil))))
def dfl_PutColumns_undoing : List D := []
noncomputable def G_PutColumns_undoing : GF := fnG 1 1 D_PutColumns_undoing
noncomputable def D_TakeRows_undoing : DS :=
  (sRet (dMake "PutRows" 3 G_PutRows_init__ (List.drop 1 dfl_PutRows_init__) (aCons (dFld "at" (dVar 0)) (aCons (dFld "many" (dVar 0)) aNil))))
def dfl_TakeRows_undoing : List D := []
noncomputable def G_TakeRows_undoing : GF := fnG 1 1 D_TakeRows_undoing
noncomputable def D_PutRows_undoing : DS :=
  (sRet (dMake "TakeRows" 3 G_TakeRows_init__ (List.drop 1 dfl_TakeRows_init__) (aCons (dFld "at" (dVar 0)) (aCons (dFld "many" (dVar 0)) aNil))))
def dfl_PutRows_undoing : List D := []
noncomputable def G_PutRows_undoing : GF := fnG 1 1 D_PutRows_undoing
noncomputable def D_PutRows_eq__ : DS :=
  (sRet (dAnd (dBlt (bIsU (.inr "PutRows")) (aCons (dVar 1) (aCons (dC (.glo "PutRows")) aNil))) (dOp opEq (dTup (aCons (dFld "at" (dVar 0)) (aCons (dFld "many" (dVar 0)) aNil))) (dTup (aCons (dFld "at" (dVar 1)) (aCons (dFld "many" (dVar 1)) aNil))))))
def dfl_PutRows_eq__ : List D := []
noncomputable def G_PutRows_eq__ : GF := fnG 2 2 D_PutRows_eq__
noncomputable def D_TakeRows_eq__ : DS :=
  (sRet (dAnd (dBlt (bIsU (.inr "TakeRows")) (aCons (dVar 1) (aCons (dC (.glo "TakeRows")) aNil))) (dOp opEq (dTup (aCons (dFld "at" (dVar 0)) (aCons (dFld "many" (dVar 0)) aNil))) (dTup (aCons (dFld "at" (dVar 1)) (aCons (dFld "many" (dVar 1)) aNil))))))
def dfl_TakeRows_eq__ : List D := []
noncomputable def G_TakeRows_eq__ : GF := fnG 2 2 D_TakeRows_eq__
noncomputable def D_PutColumns_eq__ : DS :=
  (sRet (dAnd (dBlt (bIsU (.inr "PutColumns")) (aCons (dVar 1) (aCons (dC (.glo "PutColumns")) aNil))) (dOp opEq (dTup (aCons (dFld "at" (dVar 0)) (aCons (dFld "many" (dVar 0)) aNil))) (dTup (aCons (dFld "at" (dVar 1)) (aCons (dFld "many" (dVar 1)) aNil))))))
def dfl_PutColumns_eq__ : List D := []
noncomputable def G_PutColumns_eq__ : GF := fnG 2 2 D_PutColumns_eq__
noncomputable def D_TakeColumns_eq__ : DS :=
  (sRet (dAnd (dBlt (bIsU (.inr "TakeColumns")) (aCons (dVar 1) (aCons (dC (.glo "TakeColumns")) aNil))) (dOp opEq (dTup (aCons (dFld "at" (dVar 0)) (aCons (dFld "many" (dVar 0)) aNil))) (dTup (aCons (dFld "at" (dVar 1)) (aCons (dFld "many" (dVar 1)) aNil))))))
def dfl_TakeColumns_eq__ : List D := []
noncomputable def G_TakeColumns_eq__ : GF := fnG 2 2 D_TakeColumns_eq__
noncomputable def D_law_alone : DS :=
  (sSeq (sIf (dTst (dOp opEq (dVar 0) (dC (.int 0))))
    (sRet (dMake "PutRows" 3 G_PutRows_init__ (List.drop 0 dfl_PutRows_init__) (aCons (dVar 1) aNil)))
    sNil)
    (sSeq (sIf (dTst (dOp opEq (dVar 0) (dC (.int 1))))
    (sRet (dMake "TakeRows" 3 G_TakeRows_init__ [] (aPick 0 (List.length (["at"] : List Str)) [0, 1] dfl_TakeRows_init__ aNil (aCons (dVar 1) aNil))))
    sNil)
    (sSeq (sIf (dTst (dOp opEq (dVar 0) (dC (.int 2))))
    (sRet (dMake "PutColumns" 3 G_PutColumns_init__ (List.drop 0 dfl_PutColumns_init__) (aCons (dVar 1) aNil)))
    sNil)
    (sRet (dMake "TakeColumns" 3 G_TakeColumns_init__ (List.drop 0 dfl_TakeColumns_init__) (aCons (dVar 1) aNil))))))
def dfl_law_alone : List D := []
noncomputable def G_law_alone : GF := fnG 2 2 D_law_alone
noncomputable def D_law_lines_right : DS :=
  (sSeq (sAsg (dOp opIx (dLst (aCons (dC (.str "PutRows")) (aCons (dC (.str "TakeRows")) (aCons (dC (.str "PutColumns")) (aCons (dC (.str "TakeColumns")) aNil))))) (dVar 0)) (gNm 3))
    (sSeq (sAsg (dCall 3 G_law_lines (List.drop 0 dfl_law_lines) (aCons (dVar 0) (aCons (dVar 1) (aCons (dVar 2) aNil)))) (gNm 4))
    (sSeq (sAsg (dOp opAdd (dOp opAdd (dOp opAdd (dOp opAdd (dOp opAdd (dVar 3) (dC (.str "("))) (dBlt bStr2 (aCons (dVar 1) aNil))) (dC (.str ", "))) (dBlt bStr2 (aCons (dVar 2) aNil))) (dC (.str ")"))) (gNm 5))
    (sSeq (sIf (tOr2 (dTst (dOp opNe (dTup (aCons (dFld "at" (dVar 4)) (aCons (dFld "many" (dVar 4)) aNil))) (dTup (aCons (dVar 1) (aCons (dVar 2) aNil))))) (dTst (dOp opNe (dObSs [("PutRows", G_PutRows_repr__), ("TakeRows", G_TakeRows_repr__), ("PutColumns", G_PutColumns_repr__), ("TakeColumns", G_TakeColumns_repr__)] (dVar 4)) (dVar 5))))
    (sRet (dC (.bl false)))
    sNil)
    (sSeq (sAsg (dLcF (iRng (aCons (dC (.int 6)) aNil)) (gNm 7) tYes' (dOp (opIn false) (dVar 7) (dTup (aCons (dVar 0) (aCons (dC (.int 5)) aNil)))) [7]) (gNm 6))
    (sSeq (sIf (tOr2 (dTst (dOp opNe (dCall 1 G_law_kinds (List.drop 0 dfl_law_kinds) (aCons (dVar 4) aNil)) (dVar 6))) (dTst (dNes [("PutRows", G_PutRows_eq__), ("TakeRows", G_TakeRows_eq__), ("PutColumns", G_PutColumns_eq__), ("TakeColumns", G_TakeColumns_eq__)] (dMeths "undoing" [("PutRows", 1, G_PutRows_undoing, List.drop 0 dfl_PutRows_undoing), ("TakeRows", 1, G_TakeRows_undoing, List.drop 0 dfl_TakeRows_undoing), ("PutColumns", 1, G_PutColumns_undoing, List.drop 0 dfl_PutColumns_undoing), ("TakeColumns", 1, G_TakeColumns_undoing, List.drop 0 dfl_TakeColumns_undoing)] (dVar 4) aNil) (dCall 3 G_law_lines (List.drop 0 dfl_law_lines) (aCons (dOp opIx (dLst (aCons (dC (.int 1)) (aCons (dC (.int 0)) (aCons (dC (.int 3)) (aCons (dC (.int 2)) aNil))))) (dVar 0)) (aCons (dVar 1) (aCons (dVar 2) aNil)))))))
    (sRet (dC (.bl false)))
    sNil)
    (sSeq (sIf (tOr2 (dTst (dNes [("PutRows", G_PutRows_eq__), ("TakeRows", G_TakeRows_eq__), ("PutColumns", G_PutColumns_eq__), ("TakeColumns", G_TakeColumns_eq__)] (dVar 4) (dCall 3 G_law_lines (List.drop 0 dfl_law_lines) (aCons (dVar 0) (aCons (dVar 1) (aCons (dVar 2) aNil)))))) (dTst (dOwns [("PutRows", G_PutRows_eq__), ("TakeRows", G_TakeRows_eq__), ("PutColumns", G_PutColumns_eq__), ("TakeColumns", G_TakeColumns_eq__)] (dVar 4) (dCall 3 G_law_lines (List.drop 0 dfl_law_lines) (aCons (dVar 0) (aCons (dOp opAdd (dVar 1) (dC (.int 1))) (aCons (dVar 2) aNil)))))))
    (sRet (dC (.bl false)))
    sNil)
    (sSeq (sIf (dTst (dOp (opIn false) (dC (.bl true)) (dLcF (iRng (aCons (dC (.int 4)) aNil)) (gNm 7) (dTst (dOp opNe (dVar 7) (dVar 0))) (dOwns [("PutRows", G_PutRows_eq__), ("TakeRows", G_TakeRows_eq__), ("PutColumns", G_PutColumns_eq__), ("TakeColumns", G_TakeColumns_eq__)] (dVar 4) (dCall 3 G_law_lines (List.drop 0 dfl_law_lines) (aCons (dVar 7) (aCons (dVar 1) (aCons (dVar 2) aNil))))) [7])))
    (sRet (dC (.bl false)))
    sNil)
    (sRet (dAnd (dNes [("PutRows", G_PutRows_eq__), ("TakeRows", G_TakeRows_eq__), ("PutColumns", G_PutColumns_eq__), ("TakeColumns", G_TakeColumns_eq__)] (dVar 4) (dCall 3 G_law_lines (List.drop 0 dfl_law_lines) (aCons (dVar 0) (aCons (dVar 1) (aCons (dOp opAdd (dVar 2) (dC (.int 1))) aNil))))) (dOwns [("PutRows", G_PutRows_eq__), ("TakeRows", G_TakeRows_eq__), ("PutColumns", G_PutColumns_eq__), ("TakeColumns", G_TakeColumns_eq__)] (dCall 2 G_law_alone (List.drop 0 dfl_law_alone) (aCons (dVar 0) (aCons (dVar 1) aNil))) (dCall 3 G_law_lines (List.drop 0 dfl_law_lines) (aCons (dVar 0) (aCons (dVar 1) (aCons (dC (.int 1)) aNil)))))))))))))))
def dfl_law_lines_right : List D := []
noncomputable def G_law_lines_right : GF := fnG 8 3 D_law_lines_right
noncomputable def D_Move_init__ : DS :=
  (sSeq (sIf (tOr2 (tNot2 (dTru (dBlt (bIsU (.inr "Block")) (aCons (dVar 1) (aCons (dC (.glo "Block")) aNil))))) (tOr2 (dTst (dOp opIs (dFld "bottom" (dVar 1)) (dC .non))) (dTst (dOp opIs (dFld "right" (dVar 1)) (dC .non)))))
    (sRaise "NoChange")
    sNil)
    (sSeq (sExp (dMeth "Move" "checked" 2 G_Change_checked (List.drop 0 dfl_Change_checked) (dVar 0) (aCons (dLst (aCons (dVar 2) (aCons (dVar 3) aNil))) aNil)))
    (sSeq (sFldSet "block" (dVar 0) (dVar 1))
    (sSeq (sFldSet "row" (dVar 0) (dVar 2))
    (sFldSet "column" (dVar 0) (dVar 3))))))
def dfl_Move_init__ : List D := []
noncomputable def G_Move_init__ : GF := fnG 4 4 D_Move_init__
noncomputable def D_Move_repr__ : DS :=
  (sRet (dFs [(dC (.str "Move(")), (dFmR "Block" G_Block_repr__ (dFld "block" (dVar 0))), (dC (.str ", ")), (dFmt (dFld "row" (dVar 0))), (dC (.str ", ")), (dFmt (dFld "column" (dVar 0))), (dC (.str ")"))]))
def dfl_Move_repr__ : List D := []
noncomputable def G_Move_repr__ : GF := fnG 1 1 D_Move_repr__
noncomputable def D_Move_steps : DS :=
  (sRet (dTup (aCons (dOp opSub (dFld "row" (dVar 0)) (dFld "top" (dFld "block" (dVar 0)))) (aCons (dOp opSub (dFld "column" (dVar 0)) (dFld "left" (dFld "block" (dVar 0)))) aNil))))
def dfl_Move_steps : List D := []
noncomputable def G_Move_steps : GF := fnG 1 1 D_Move_steps
noncomputable def D_moved_ends : DS :=
  (sSeq (sIf (tAnd2 (dTst (dOp opIsN (dVar 1) (dC .non))) (dTst (dOp opLt (dOp opAdd (dVar 1) (dVar 2)) (dC (.int 1)))))
    (sRet (dC .non))
    sNil)
    (sSeq (sIf (dTst (dOp opIsN (dVar 1) (dC .non)))
    (sAug 1 (dVar 2))
    sNil)
    (sRet (dTup (aCons (dBlt bMax (aCons (dC (.int 1)) (aCons (dOp opAdd (dVar 0) (dVar 2)) aNil))) (aCons (dVar 1) aNil))))))
def dfl_moved_ends : List D := []
noncomputable def G_moved_ends : GF := fnG 3 3 D_moved_ends
noncomputable def D_moved_block : DS :=
  (sSeq (sAsg (dCall 3 G_moved_ends (List.drop 0 dfl_moved_ends) (aCons (dFld "top" (dVar 0)) (aCons (dFld "bottom" (dVar 0)) (aCons (dVar 1) aNil)))) (gNm 3))
    (sSeq (sAsg (dCall 3 G_moved_ends (List.drop 0 dfl_moved_ends) (aCons (dFld "left" (dVar 0)) (aCons (dFld "right" (dVar 0)) (aCons (dVar 2) aNil)))) (gNm 4))
    (sSeq (sIf (tOr2 (dTst (dOp opIs (dVar 3) (dC .non))) (dTst (dOp opIs (dVar 4) (dC .non))))
    (sRet (dLst aNil))
    sNil)
    (sRet (dLst (aCons (dMake "Block" 5 G_Block_init__ (List.drop 4 dfl_Block_init__) (aCons (dOp opIx (dVar 3) (dC (.int 0))) (aCons (dOp opIx (dVar 4) (dC (.int 0))) (aCons (dOp opIx (dVar 3) (dC (.int 1))) (aCons (dOp opIx (dVar 4) (dC (.int 1))) aNil))))) aNil))))))
def dfl_moved_block : List D := []
noncomputable def G_moved_block : GF := fnG 5 3 D_moved_block
noncomputable def D_Move_target : DS :=
  (sSeq (sAsg (dMeth "Move" "steps" 1 G_Move_steps (List.drop 0 dfl_Move_steps) (dVar 0) aNil) (gSeq 2 (gsCons (gNm 1) (gsCons (gNm 2) gsNil))))
    (sRet (dOp opIx (dCall 3 G_moved_block (List.drop 0 dfl_moved_block) (aCons (dFld "block" (dVar 0)) (aCons (dVar 1) (aCons (dVar 2) aNil)))) (dC (.int 0)))))
def dfl_Move_target : List D := []
noncomputable def G_Move_target : GF := fnG 3 1 D_Move_target
noncomputable def D_Move_undoing : DS :=
  (sRet (dMake "Move" 4 G_Move_init__ (List.drop 0 dfl_Move_init__) (aCons (dMeth "Move" "target" 1 G_Move_target (List.drop 0 dfl_Move_target) (dVar 0) aNil) (aCons (dFld "top" (dFld "block" (dVar 0))) (aCons (dFld "left" (dFld "block" (dVar 0))) aNil)))))
def dfl_Move_undoing : List D := []
noncomputable def G_Move_undoing : GF := fnG 1 1 D_Move_undoing
noncomputable def D_Move_eq__ : DS :=
  (sSeq (sIf (tOr2 (tNot2 (dTru (dBlt (bIsU (.inr "Move")) (aCons (dVar 1) (aCons (dC (.glo "Move")) aNil))))) (dTst (dNe "Block" G_Block_eq__ (dFld "block" (dVar 0)) (dFld "block" (dVar 1)))))
    (sRet (dC (.bl false)))
    sNil)
    (sRet (dOp opEq (dTup (aCons (dFld "row" (dVar 0)) (aCons (dFld "column" (dVar 0)) aNil))) (dTup (aCons (dFld "row" (dVar 1)) (aCons (dFld "column" (dVar 1)) aNil))))))
def dfl_Move_eq__ : List D := []
noncomputable def G_Move_eq__ : GF := fnG 2 2 D_Move_eq__
noncomputable def D_law_move_right : DS :=
  (sSeq (sAsg (dMake "Move" 4 G_Move_init__ (List.drop 0 dfl_Move_init__) (aCons (dMake "Block" 5 G_Block_init__ (List.drop 4 dfl_Block_init__) (aCons (dOp opIx (dVar 0) (dC (.int 0))) (aCons (dOp opIx (dVar 0) (dC (.int 1))) (aCons (dOp opIx (dVar 0) (dC (.int 2))) (aCons (dOp opIx (dVar 0) (dC (.int 3))) aNil))))) (aCons (dVar 1) (aCons (dVar 2) aNil)))) (gNm 3))
    (sSeq (sAsg (dOp opAdd (dOp opAdd (dC (.str "Block(")) (dM1 dJoin (dC (.str ", ")) (dLcF (iAny (dVar 0)) (gNm 5) tYes' (dBlt bStr2 (aCons (dVar 5) aNil)) [5]))) (dC (.str ")"))) (gNm 4))
    (sSeq (sAsg (dOp opAdd (dOp opAdd (dC (.str "Move(")) (dM1 dJoin (dC (.str ", ")) (dLst (aCons (dVar 4) (aCons (dBlt bStr2 (aCons (dVar 1) aNil)) (aCons (dBlt bStr2 (aCons (dVar 2) aNil)) aNil)))))) (dC (.str ")"))) (gNm 4))
    (sSeq (sAsg (dTup (aCons (dFld "top" (dFld "block" (dVar 3))) (aCons (dFld "left" (dFld "block" (dVar 3))) (aCons (dFld "bottom" (dFld "block" (dVar 3))) (aCons (dFld "right" (dFld "block" (dVar 3))) aNil))))) (gNm 6))
    (sSeq (sIf (tOr2 (dTst (dOp opNe (dVar 6) (dVar 0))) (tOr2 (dTst (dOp opNe (dTup (aCons (dFld "row" (dVar 3)) (aCons (dFld "column" (dVar 3)) aNil))) (dTup (aCons (dVar 1) (aCons (dVar 2) aNil))))) (dTst (dOp opNe (dObS "Move" G_Move_repr__ (dVar 3)) (dVar 4)))))
    (sRet (dC (.bl false)))
    sNil)
    (sSeq (sAsg (dTup (aCons (dOp opSub (dVar 1) (dOp opIx (dVar 0) (dC (.int 0)))) (aCons (dOp opSub (dVar 2) (dOp opIx (dVar 0) (dC (.int 1)))) aNil))) (gNm 7))
    (sSeq (sAsg (dMake "Block" 5 G_Block_init__ (List.drop 4 dfl_Block_init__) (aCons (dVar 1) (aCons (dVar 2) (aCons (dOp opAdd (dOp opIx (dVar 0) (dC (.int 2))) (dOp opIx (dVar 7) (dC (.int 0)))) (aCons (dOp opAdd (dOp opIx (dVar 0) (dC (.int 3))) (dOp opIx (dVar 7) (dC (.int 1)))) aNil))))) (gNm 8))
    (sSeq (sIf (dTst (dOp opNe (dCall 1 G_law_kinds (List.drop 0 dfl_law_kinds) (aCons (dVar 3) aNil)) (dLst (aCons (dC (.bl false)) (aCons (dC (.bl false)) (aCons (dC (.bl false)) (aCons (dC (.bl false)) (aCons (dC (.bl true)) (aCons (dC (.bl true)) aNil)))))))))
    (sRet (dC (.bl false)))
    sNil)
    (sSeq (sIf (dTst (dNe "Move" G_Move_eq__ (dMeth "Move" "undoing" 1 G_Move_undoing (List.drop 0 dfl_Move_undoing) (dVar 3) aNil) (dMake "Move" 4 G_Move_init__ [] (aPick 0 (List.length (["column", "row", "block"] : List Str)) [2, 1, 0] [] aNil (aCons (dOp opIx (dVar 0) (dC (.int 1))) (aCons (dOp opIx (dVar 0) (dC (.int 0))) (aCons (dVar 8) aNil)))))))
    (sRet (dC (.bl false)))
    sNil)
    (sSeq (sIf (tOr2 (dTst (dOwn "Move" G_Move_eq__ (dVar 3) (dMake "Move" 4 G_Move_init__ (List.drop 0 dfl_Move_init__) (aCons (dFld "block" (dVar 3)) (aCons (dOp opAdd (dVar 1) (dC (.int 1))) (aCons (dVar 2) aNil)))))) (dTst (dOwn "Move" G_Move_eq__ (dVar 3) (dMake "Move" 4 G_Move_init__ (List.drop 0 dfl_Move_init__) (aCons (dFld "block" (dVar 3)) (aCons (dVar 1) (aCons (dOp opAdd (dVar 2) (dC (.int 1))) aNil)))))))
    (sRet (dC (.bl false)))
    sNil)
    (sSeq (sIf (tAnd2 (dTst (dOp opNe (dVar 7) (dTup (aCons (dC (.int 0)) (aCons (dC (.int 0)) aNil))))) (dTst (dOwn "Move" G_Move_eq__ (dVar 3) (dMake "Move" 4 G_Move_init__ (List.drop 0 dfl_Move_init__) (aCons (dVar 8) (aCons (dVar 1) (aCons (dVar 2) aNil)))))))
    (sRet (dC (.bl false)))
    sNil)
    (sRet (dOwn "Move" G_Move_eq__ (dVar 3) (dMake "Move" 4 G_Move_init__ (List.drop 0 dfl_Move_init__) (aCons (dFld "block" (dVar 3)) (aCons (dVar 1) (aCons (dVar 2) aNil)))))))))))))))))
def dfl_law_move_right : List D := []
noncomputable def G_law_move_right : GF := fnG 9 3 D_law_move_right
noncomputable def D_law_refused_k31 : DS :=
  (sSeq (dTry (["NoChange"] : List Str) "CellError" 4
    (sIf (dTst (dOp opLt (dVar 0) (dC (.int 4))))
    (sExp (dCall 3 G_law_lines (List.drop 0 dfl_law_lines) (aCons (dVar 0) (aCons (dVar 1) (aCons (dVar 2) aNil)))))
    (sExp (dMake "Move" 4 G_Move_init__ (List.drop 0 dfl_Move_init__) (aCons (dVar 1) (aCons (dVar 2) (aCons (dVar 3) aNil))))))
    (sSeq (sAsg (dLst (aCons (dBlt (bIsX (["NoChange"] : List Str) (.inr "NoChange")) (aCons (dVar 4) (aCons (dC (.glo "NoChange")) aNil))) (aCons (dBlt (bIsX (["NoChange"] : List Str) (.inr "NoNumber")) (aCons (dVar 4) (aCons (dC (.glo "NoNumber")) aNil))) (aCons (dBlt (bIsX (["NoChange"] : List Str) (.inr "NoBlock")) (aCons (dVar 4) (aCons (dC (.glo "NoBlock")) aNil))) (aCons (dBlt (bIsX (["NoChange"] : List Str) (.inr "NoCell")) (aCons (dVar 4) (aCons (dC (.glo "NoCell")) aNil))) aNil))))) (gNm 5))
    (sRet (dOp opEq (dVar 5) (dLst (aCons (dC (.bl true)) (aCons (dC (.bl false)) (aCons (dC (.bl false)) (aCons (dC (.bl false)) aNil)))))))))
    (sRet (dC (.bl false))))
def dfl_law_refused_k31 : List D := []
noncomputable def G_law_refused_k31 : GF := fnG 6 4 D_law_refused_k31
noncomputable def D_law_k31 : DS :=
  (sSeq (dFor (iAny (dOp opAdd (dSlc (dVar 0) dNoP (dP (dC (.int 12)))) (dLst (aCons (dC (.int 0)) (aCons (dC (.int 1)) aNil))))) (gNm 1)
    (sSeq (sNew 2 (dCallN 1 G_law_source (List.drop 0 dfl_law_source) (aCons (dVar 1) aNil)))
    (sSeq (sAsg (dTup (aCons (dCall 1 G_law_number_k31 (List.drop 0 dfl_law_number_k31) (aCons (dVar 2) aNil)) (aCons (dCall 1 G_law_number_k31 (List.drop 0 dfl_law_number_k31) (aCons (dVar 2) aNil)) aNil))) (gSeq 2 (gsCons (gNm 3) (gsCons (gNm 4) gsNil))))
    (sSeq (sAsg (dCall 2 G_law_next (List.drop 0 dfl_law_next) (aCons (dVar 2) (aCons (dC (.int 4)) aNil))) (gNm 5))
    (sSeq (sIf (tNot2 (dTru (dCall 3 G_law_lines_right (List.drop 0 dfl_law_lines_right) (aCons (dVar 5) (aCons (dVar 3) (aCons (dVar 4) aNil))))))
    (sRet (dC (.bl false)))
    sNil)
    (sSeq (sAsg (dTup (aCons (dVar 3) (aCons (dVar 4) (aCons (dOp opAdd (dVar 3) (dCall 2 G_law_next (List.drop 0 dfl_law_next) (aCons (dVar 2) (aCons (dC (.int 3)) aNil)))) (aCons (dOp opAdd (dVar 4) (dCall 1 G_law_number_k31 (List.drop 0 dfl_law_number_k31) (aCons (dVar 2) aNil))) aNil))))) (gNm 6))
    (sSeq (sIf (tNot2 (dTru (dCall 3 G_law_move_right (List.drop 0 dfl_law_move_right) (aCons (dVar 6) (aCons (dCall 1 G_law_number_k31 (List.drop 0 dfl_law_number_k31) (aCons (dVar 2) aNil)) (aCons (dCall 1 G_law_number_k31 (List.drop 0 dfl_law_number_k31) (aCons (dVar 2) aNil)) aNil))))))
    (sRet (dC (.bl false)))
    sNil)
    (sSeq (sAsg (dOp opIx (dLst (aCons (dC (.int 0)) (aCons (dNeg (dC (.int 1))) (aCons (dC .non) (aCons (dC (.bl true)) (aCons (dC (.str "1")) (aCons (dLst (aCons (dVar 3) aNil)) (aCons (dTup (aCons (dVar 3) aNil)) (aCons (dOp opSub (dC (.int 0)) (dVar 3)) (aCons (dC (.bl false)) aNil)))))))))) (dCall 2 G_law_next (List.drop 0 dfl_law_next) (aCons (dVar 2) (aCons (dC (.int 9)) aNil)))) (gNm 7))
    (sSeq (sIf (tNot2 (dTru (dCall 4 G_law_refused_k31 (List.drop 0 dfl_law_refused_k31) (aCons (dVar 5) (aCons (dVar 7) (aCons (dVar 4) (aCons (dC .non) aNil)))))))
    (sRet (dC (.bl false)))
    sNil)
    (sSeq (sIf (tOr2 (tNot2 (dTru (dCall 4 G_law_refused_k31 (List.drop 0 dfl_law_refused_k31) (aCons (dVar 5) (aCons (dVar 3) (aCons (dVar 7) (aCons (dC .non) aNil))))))) (tNot2 (dTru (dCall 4 G_law_refused_k31 (List.drop 0 dfl_law_refused_k31) (aCons (dC (.int 4)) (aCons (dMake "Block" 5 G_Block_init__ (List.drop 4 dfl_Block_init__) (aCons (dC (.int 2)) (aCons (dC (.int 2)) (aCons (dC (.int 3)) (aCons (dC (.int 3)) aNil))))) (aCons (dVar 7) (aCons (dVar 3) aNil))))))))
    (sRet (dC (.bl false)))
    sNil)
    (sSeq (sAsg (dLst (aCons (dMake "Block" 5 G_Block_init__ (List.drop 0 dfl_Block_init__) aNil) (aCons (dMake "Block" 5 G_Block_init__ (List.drop 4 dfl_Block_init__) (aCons (dC (.int 2)) (aCons (dC (.int 2)) (aCons (dC (.int 3)) (aCons (dC .non) aNil))))) (aCons (dMake "Block" 5 G_Block_init__ (List.drop 4 dfl_Block_init__) (aCons (dC (.int 2)) (aCons (dC (.int 2)) (aCons (dC .non) (aCons (dC (.int 3)) aNil))))) (aCons (dC .non) (aCons (dC (.str "B2")) (aCons (dTup (aCons (dC (.int 2)) (aCons (dC (.int 2)) (aCons (dC (.int 3)) (aCons (dC (.int 3)) aNil))))) (aCons (dLst (aCons (dMake "Block" 5 G_Block_init__ (List.drop 4 dfl_Block_init__) (aCons (dC (.int 1)) (aCons (dC (.int 1)) (aCons (dC (.int 1)) (aCons (dC (.int 1)) aNil))))) aNil)) aNil)))))))) (gNm 8))
    (sSeq (sIf (tNot2 (dTru (dCall 4 G_law_refused_k31 (List.drop 0 dfl_law_refused_k31) (aCons (dC (.int 4)) (aCons (dOp opIx (dVar 8) (dCall 2 G_law_next (List.drop 0 dfl_law_next) (aCons (dVar 2) (aCons (dC (.int 7)) aNil)))) (aCons (dVar 3) (aCons (dVar 4) aNil)))))))
    (sRet (dC (.bl false)))
    sNil)
    (sSeq (sIf (tNot2 (dTru (dCall 4 G_law_refused_k31 (List.drop 0 dfl_law_refused_k31) (aCons (dC (.int 4)) (aCons (dMake "Block" 5 G_Block_init__ (List.drop 4 dfl_Block_init__) (aCons (dC (.int 2)) (aCons (dC (.int 2)) (aCons (dC (.int 2)) (aCons (dC (.int 2)) aNil))))) (aCons (dVar 3) (aCons (dVar 7) aNil)))))))
    (sRet (dC (.bl false)))
    sNil)
    (sSeq (sAsg (dLst (aCons (dC .non) (aCons (dObS "PutRows" G_PutRows_repr__ (dMake "PutRows" 3 G_PutRows_init__ (List.drop 1 dfl_PutRows_init__) (aCons (dVar 3) (aCons (dVar 4) aNil)))) (aCons (dTup (aCons (dVar 3) (aCons (dVar 4) aNil))) (aCons (dVar 3) (aCons (dMake "Block" 5 G_Block_init__ (List.drop 0 dfl_Block_init__) aNil) aNil)))))) (gNm 9))
    (sIf (dTst (dOp (opIn false) (dC (.bl true)) (dLcF (iAny (dVar 9)) (gNm 10) tYes' (dOwn "PutRows" G_PutRows_eq__ (dMake "PutRows" 3 G_PutRows_init__ (List.drop 1 dfl_PutRows_init__) (aCons (dVar 3) (aCons (dVar 4) aNil))) (dVar 10)) [10])))
    (sRet (dC (.bl false)))
    sNil)))))))))))))))
    (sRet (dC (.bl true))))
def dfl_law_k31 : List D := []
noncomputable def G_law_k31 : GF := fnG 11 1 D_law_k31
end PG
namespace PG
open PySem PySem.Spec PyProof.Rows L2 DL
local macro_rules | `(tactic| trivial) => `(tactic| simp (config := { dsimp := false }) only [*, eq_self, DL.w_ok, DL.w_ex, DL.w_bind, DL.w_bindS, DL.o_some, DL.w_dC, DL.w_var, DL.w_op, DL.a_nil, DL.a_cons, DL.w_tup, DL.w_lst, DL.w_blt, DL.w_call, DL.w_callN, DL.w_or, DL.w_and, DL.w_not, DL.w_neg, DL.w_if, DL.w_chain, DL.t_tru, DL.t_tst, DL.t_and, DL.t_or, DL.t_not, DL.p_no, DL.p_some, DL.w_slc, DL.w_m1, DL.w_m0, DL.w_fld, DL.s_nil, DL.s_brk, DL.s_cnt, DL.s_retN, DL.s_raise, DL.s_seq, DL.s_ret, DL.s_exp, DL.s_if, DL.s_set, DL.s_new, DL.s_cel, DL.s_retC, DL.s_par, DL.s_asg, DL.e_add, DL.e_sub, DL.e_mulR, DL.e_mulL, DL.e_modS, DL.e_divS, DL.e_pow, DL.e_lt, DL.e_le, DL.e_gt, DL.e_ge, DL.e_is, DL.e_isN, DL.e_eqI, DL.e_neI, DL.e_eqS, DL.e_neS, DL.h_bl, DL.h_int, DL.h_non, DL.b_bl, DL.i_int, DL.s_str, DL.l_lst, DL.q_lst, DL.q_tup, DL.c_lst, DL.c_seq, DL.c_lis, DL.x_cel, DL.x_lst, DL.x_tup, DL.at_nn, DL.ix_in, DL.p_cel, DL.e_mulIf, DL.e_mulM, DL.t_len, DL.t_intB, DL.start, DL.s_setIx, DL.s_for, DL.i_rng, DL.i_rng2, DL.w_lc, DL.r_one, DL.s_app, DL.g_cel, DL.w_dct0, DL.w_meth, DL.isC_obj, DL.w_make, DL.w_pick, DL.pick_cons, DL.pick_nil, DL.w_own, DL.w_ne, DL.w_obS, DL.cls_obj, DL.fld_obj, DL.w_fmt, DL.w_fs, DL.w_fsNil, DL.w_fsCons, DL.w_isT, DL.w_revA, DL.s_try, DL.s_raiseI, DL.s_tryP, DL.s_endX, DL.w_isXT, DL.i_any, DL.ia_tup, DL.ia_str, DL.ia_lst, DL.ia_scr, DL.ia_cel, DL.gl_glo, DL.w_callA, DL.s_tryN, DL.s_never, DL.s_fld, DL.w_listN, DL.g_seq, DL.g_cons, DL.g_nil, DL.g_nm, DL.t_yes, DL.wipe_cons, DL.wipe_nil, DL.nn_non, DL.nn_int, DL.nn_str, DL.nn_bl, DL.nn_tup, DL.nn_lst, DL.w_fmR, DL.w_owns, DL.w_nes, DL.w_obSs, DL.w_meths, List.map_cons, List.map_nil, List.length_cons, List.length_nil, List.cons_append, List.nil_append, List.append_nil, List.drop_zero, List.drop_nil, List.drop_succ_cons, List.getElem?_cons_zero, List.getElem?_cons_succ, List.set_cons_zero, List.set_cons_succ, List.replicate_succ, List.replicate_zero, Option.join_some, Option.map_some, if_true, if_false, Bool.not_true, Bool.not_false, true_and, and_true, Nat.reduceAdd, Nat.reduceSub, Nat.reduceLeDiff, decide_true, decide_false, Bool.false_eq_true, Option.bind_some, Int.reduceToNat, List.getElem?_set_self, Int.reduceLT, Int.reduceLE, Int.reduceNeg, Int.reduceSub, Int.reduceAdd, Int.reduceMul, Int.reducePow, Nat.reduceLT, Int.reduceEq, ite_self, PG.dfl_law_draw, PG.dfl_law_well])
/-! the well of numbers, and what is drawn -/
def Well (μ : List M) (i : Nat) : Prop := ∃ a b c : Int, μ[i]? = some (.lst [.int a, .int b, .int c])
theorem take_set {μ : List M} {i : Nat} {x : M} : (μ.set i x).take μ.length = μ.set i x := List.take_of_length_le (by rw [List.length_set]; exact Nat.le_refl _)
/-- m is μ but for the well at i -/
structure Dr (μ : List M) (i : Nat) (m : List M) : Prop where
  cln0 : Cln μ
  lt : i < μ.length
  ex : ∃ a b c : Int, m = μ.set i (.lst [.int a, .int b, .int c])
section
variable {μ m m' : List M} {i : Nat}
theorem Dr.cln (h : Dr μ i m) : Cln m := by
  obtain ⟨a, b, c, rfl⟩ := h.ex
  exact h.cln0.set rfl
theorem Dr.len (h : Dr μ i m) : m.length = μ.length := by
  obtain ⟨a, b, c, rfl⟩ := h.ex
  exact List.length_set
theorem Dr.well (h : Dr μ i m) : Well m i := by
  obtain ⟨a, b, c, rfl⟩ := h.ex
  exact ⟨a, b, c, List.getElem?_set_self h.lt⟩
theorem Dr.of (hc : Cln μ) (h : Well μ i) : Dr μ i μ := by
  obtain ⟨a, b, c, h⟩ := h
  obtain ⟨hi, h⟩ := List.getElem?_eq_some_iff.mp h
  exact ⟨hc, hi, a, b, c, by rw [← h, List.set_getElem_self]⟩
theorem Dr.step (h : Dr μ i m) {a b c : Int} : Dr μ i (m.set i (.lst [.int a, .int b, .int c])) := by
  obtain ⟨a', b', c', rfl⟩ := h.ex
  exact ⟨h.cln0, h.lt, a, b, c, List.set_set ..⟩
theorem Dr.trans (h : Dr μ i m) (h' : Dr m i m') : Dr μ i m' := by
  obtain ⟨a', b', c', rfl⟩ := h'.ex
  exact h.step
theorem Dr.take (h : Dr μ i m) : m.take μ.length = m := List.take_of_length_le (by rw [h.len]; exact Nat.le_refl _)
theorem Dr.self (h : Dr μ i m) : Dr m i m := .of h.cln h.well
theorem Dr.at_ (h : Dr μ i m) {j : Nat} (n : j ≠ i) : m[j]? = μ[j]? := by
  obtain ⟨a, b, c, rfl⟩ := h.ex
  rw [List.getElem?_set_ne (Ne.symm n)]
/-- a new well behind all cells -/
theorem Dr.new {a b c : Int} (hc : Cln μ) : Dr (μ ++ [.lst [.int a, .int b, .int c]]) μ.length (μ ++ [.lst [.int a, .int b, .int c]]) := .of (hc.snoc rfl) ⟨a, b, c, List.getElem?_concat_length⟩
/-- what a def hands back that drew, only -/
theorem Dr.fr {d : D} {Q : D → List M → Prop} (h : Dr μ i m) (hd : clean 0 d = true) (q : Q d m) : FR μ.length m d Q := ⟨hd, h.cln, by rw [h.take]; exact q⟩
/-- of a def that drew nothing -/
theorem fr_same {d : D} {Q : D → List M → Prop} (hc : Cln μ) (hd : clean 0 d = true) (q : Q d μ) : FR μ.length μ d Q := ⟨hd, hc, by rw [List.take_length]; exact q⟩
end
/-! plain parts of data -/
end PG
namespace PG
open PySem PySem.Spec PyProof.Rows L2 DL
local macro_rules | `(tactic| trivial) => `(tactic| simp (config := { dsimp := false }) only [*, eq_self, DL.w_ok, DL.w_ex, DL.w_bind, DL.w_bindS, DL.o_some, DL.w_dC, DL.w_var, DL.w_op, DL.a_nil, DL.a_cons, DL.w_tup, DL.w_lst, DL.w_blt, DL.w_call, DL.w_callN, DL.w_or, DL.w_and, DL.w_not, DL.w_neg, DL.w_if, DL.w_chain, DL.t_tru, DL.t_tst, DL.t_and, DL.t_or, DL.t_not, DL.p_no, DL.p_some, DL.w_slc, DL.w_m1, DL.w_m0, DL.w_fld, DL.s_nil, DL.s_brk, DL.s_cnt, DL.s_retN, DL.s_raise, DL.s_seq, DL.s_ret, DL.s_exp, DL.s_if, DL.s_set, DL.s_new, DL.s_cel, DL.s_retC, DL.s_par, DL.s_asg, DL.e_add, DL.e_sub, DL.e_mulR, DL.e_mulL, DL.e_modS, DL.e_divS, DL.e_pow, DL.e_lt, DL.e_le, DL.e_gt, DL.e_ge, DL.e_is, DL.e_isN, DL.e_eqI, DL.e_neI, DL.e_eqS, DL.e_neS, DL.h_bl, DL.h_int, DL.h_non, DL.b_bl, DL.i_int, DL.s_str, DL.l_lst, DL.q_lst, DL.q_tup, DL.c_lst, DL.c_seq, DL.c_lis, DL.x_cel, DL.x_lst, DL.x_tup, DL.at_nn, DL.ix_in, DL.p_cel, DL.e_mulIf, DL.e_mulM, DL.t_len, DL.t_intB, DL.start, DL.s_setIx, DL.s_for, DL.i_rng, DL.i_rng2, DL.w_lc, DL.r_one, DL.s_app, DL.g_cel, DL.w_dct0, DL.w_meth, DL.isC_obj, DL.w_make, DL.w_pick, DL.pick_cons, DL.pick_nil, DL.w_own, DL.w_ne, DL.w_obS, DL.cls_obj, DL.fld_obj, DL.w_fmt, DL.w_fs, DL.w_fsNil, DL.w_fsCons, DL.w_isT, DL.w_revA, DL.s_try, DL.s_raiseI, DL.s_tryP, DL.s_endX, DL.w_isXT, DL.i_any, DL.ia_tup, DL.ia_str, DL.ia_lst, DL.ia_scr, DL.ia_cel, DL.gl_glo, DL.w_callA, DL.s_tryN, DL.s_never, DL.s_fld, DL.w_listN, DL.g_seq, DL.g_cons, DL.g_nil, DL.g_nm, DL.t_yes, DL.wipe_cons, DL.wipe_nil, DL.nn_non, DL.nn_int, DL.nn_str, DL.nn_bl, DL.nn_tup, DL.nn_lst, DL.w_fmR, DL.w_owns, DL.w_nes, DL.w_obSs, DL.w_meths, List.map_cons, List.map_nil, List.length_cons, List.length_nil, List.cons_append, List.nil_append, List.append_nil, List.drop_zero, List.drop_nil, List.drop_succ_cons, List.getElem?_cons_zero, List.getElem?_cons_succ, List.set_cons_zero, List.set_cons_succ, List.replicate_succ, List.replicate_zero, Option.join_some, Option.map_some, if_true, if_false, Bool.not_true, Bool.not_false, true_and, and_true, Nat.reduceAdd, Nat.reduceSub, Nat.reduceLeDiff, decide_true, decide_false, Bool.false_eq_true, Option.bind_some, Int.reduceToNat, List.getElem?_set_self, Int.reduceLT, Int.reduceLE, Int.reduceNeg, Int.reduceSub, Int.reduceAdd, Int.reduceMul, Int.reducePow, Nat.reduceLT, Int.reduceEq, ite_self, PG.dfl_is_count, PG.dfl_is_end, PG.dfl_is_whole])
/-! numbers, cells -/
/-- a datum of a kind that isinstance tells -/
def kn : D → Bool
  | .non => true | .bl _ => true | .int _ => true | .str _ => true | .tup _ => true | .lst _ => true | .dct _ _ => true
  | .obj _ _ _ => true
  | .txt => true
  | _ => false
def whole : D → Bool
  | .int _ => true
  | _ => false
def cnt : D → Bool
  | .int i => decide (1 ≤ i)
  | _ => false
section
variable {μ : List M} {d e : D} {i j : Int} {b : Bool} {x : Str} {l : List D}
def isIB : D → Bool
  | .int _ => true | .bl _ => true
  | _ => false
def isBo : D → Bool
  | .bl _ => true
  | _ => false
def isTu : D → Bool
  | .tup _ => true
  | _ => false
def isSt : D → Bool
  | .str _ => true
  | .txt => true
  | _ => false
def isLs : D → Bool
  | .lst _ => true
  | _ => false
theorem isU_int (h : kn d = true) : bIsU (.inl "int") μ [d, .ty "int"] = some (.bl (isIB d)) := by
  cases d <;> first | (with_unfolding_all rfl) | cases h
theorem isU_bool (h : kn d = true) : bIsU (.inl "bool") μ [d, .ty "bool"] = some (.bl (isBo d)) := by
  cases d <;> first | (with_unfolding_all rfl) | cases h
local macro_rules | `(tactic| trivial) => `(tactic| simp (config := { dsimp := false }) only [*, eq_self, DL.w_ok, DL.w_ex, DL.w_bind, DL.w_bindS, DL.o_some, DL.w_dC, DL.w_var, DL.w_op, DL.a_nil, DL.a_cons, DL.w_tup, DL.w_lst, DL.w_blt, DL.w_call, DL.w_callN, DL.w_or, DL.w_and, DL.w_not, DL.w_neg, DL.w_if, DL.w_chain, DL.t_tru, DL.t_tst, DL.t_and, DL.t_or, DL.t_not, DL.p_no, DL.p_some, DL.w_slc, DL.w_m1, DL.w_m0, DL.w_fld, DL.s_nil, DL.s_brk, DL.s_cnt, DL.s_retN, DL.s_raise, DL.s_seq, DL.s_ret, DL.s_exp, DL.s_if, DL.s_set, DL.s_new, DL.s_cel, DL.s_retC, DL.s_par, DL.s_asg, DL.e_add, DL.e_sub, DL.e_mulR, DL.e_mulL, DL.e_modS, DL.e_divS, DL.e_pow, DL.e_lt, DL.e_le, DL.e_gt, DL.e_ge, DL.e_is, DL.e_isN, DL.e_eqI, DL.e_neI, DL.e_eqS, DL.e_neS, DL.h_bl, DL.h_int, DL.h_non, DL.b_bl, DL.i_int, DL.s_str, DL.l_lst, DL.q_lst, DL.q_tup, DL.c_lst, DL.c_seq, DL.c_lis, DL.x_cel, DL.x_lst, DL.x_tup, DL.at_nn, DL.ix_in, DL.p_cel, DL.e_mulIf, DL.e_mulM, DL.t_len, DL.t_intB, DL.start, DL.s_setIx, DL.s_for, DL.i_rng, DL.i_rng2, DL.w_lc, DL.r_one, DL.s_app, DL.g_cel, DL.w_dct0, DL.w_meth, DL.isC_obj, DL.w_make, DL.w_pick, DL.pick_cons, DL.pick_nil, DL.w_own, DL.w_ne, DL.w_obS, DL.cls_obj, DL.fld_obj, DL.w_fmt, DL.w_fs, DL.w_fsNil, DL.w_fsCons, DL.w_isT, DL.w_revA, DL.s_try, DL.s_raiseI, DL.s_tryP, DL.s_endX, DL.w_isXT, DL.i_any, DL.ia_tup, DL.ia_str, DL.ia_lst, DL.ia_scr, DL.ia_cel, DL.gl_glo, DL.w_callA, DL.s_tryN, DL.s_never, DL.s_fld, DL.w_listN, DL.g_seq, DL.g_cons, DL.g_nil, DL.g_nm, DL.t_yes, DL.wipe_cons, DL.wipe_nil, DL.nn_non, DL.nn_int, DL.nn_str, DL.nn_bl, DL.nn_tup, DL.nn_lst, DL.w_fmR, DL.w_owns, DL.w_nes, DL.w_obSs, DL.w_meths, List.map_cons, List.map_nil, List.length_cons, List.length_nil, List.cons_append, List.nil_append, List.append_nil, List.drop_zero, List.drop_nil, List.drop_succ_cons, List.getElem?_cons_zero, List.getElem?_cons_succ, List.set_cons_zero, List.set_cons_succ, List.replicate_succ, List.replicate_zero, Option.join_some, Option.map_some, if_true, if_false, Bool.not_true, Bool.not_false, true_and, and_true, Nat.reduceAdd, Nat.reduceSub, Nat.reduceLeDiff, decide_true, decide_false, Bool.false_eq_true, Option.bind_some, Int.reduceToNat, List.getElem?_set_self, Int.reduceLT, Int.reduceLE, Int.reduceNeg, Int.reduceSub, Int.reduceAdd, Int.reduceMul, Int.reducePow, Nat.reduceLT, Int.reduceEq, ite_self, isIB, isBo, isTu, isSt, isLs, whole, cnt, isNon, PG.dfl_is_count, PG.dfl_is_end, PG.dfl_is_whole])
theorem x_whole (hc : Cln μ) (h : kn d = true) : G_is_whole [d] μ = .ok (.bl (whole d)) μ := by
  apply eq_ok
  unfold G_is_whole
  refine wo_fn rfl ?_
  unfold D_is_whole
  have e1 := isU_int (μ := μ) h
  have e2 := isU_bool (μ := μ) h
  cases d <;> first | (exact absurd h Bool.false_ne_true) | (trivial; exact fr_same hc rfl ⟨rfl, rfl⟩)
theorem x_count (hc : Cln μ) (h : kn d = true) : G_is_count [d] μ = .ok (.bl (cnt d)) μ := by
  apply eq_ok
  unfold G_is_count
  refine wo_fn rfl ?_
  unfold D_is_count
  have e1 := x_whole hc h
  cases d <;> first | (exact absurd h Bool.false_ne_true) | (trivial; exact fr_same hc rfl ⟨rfl, rfl⟩)
def isEnd (f : Int) : D → Bool
  | .non => true
  | .int i => decide (1 ≤ i) && decide (f ≤ i)
  | _ => false
theorem x_end (hc : Cln μ) (h : kn d = true) : G_is_end [.int i, d] μ = .ok (.bl (isEnd i d)) μ := by
  apply eq_ok
  unfold G_is_end
  refine wo_fn rfl ?_
  unfold D_is_end
  have e1 := x_count hc h
  cases d with
  | int j =>
    trivial
    by_cases h1 : 1 ≤ j
    · trivial
      exact fr_same hc rfl ⟨by unfold isEnd; simp [h1], rfl⟩
    · trivial
      exact fr_same hc rfl ⟨by unfold isEnd; simp [h1], rfl⟩
  | _ => first | (exact absurd h Bool.false_ne_true) | (trivial; exact fr_same hc rfl ⟨rfl, rfl⟩)
end
end PG
namespace PG
open PySem PySem.Spec PyProof.Rows L2 DL
local macro_rules | `(tactic| trivial) => `(tactic| simp (config := { dsimp := false }) only [*, eq_self, DL.w_ok, DL.w_ex, DL.w_bind, DL.w_bindS, DL.o_some, DL.w_dC, DL.w_var, DL.w_op, DL.a_nil, DL.a_cons, DL.w_tup, DL.w_lst, DL.w_blt, DL.w_call, DL.w_callN, DL.w_or, DL.w_and, DL.w_not, DL.w_neg, DL.w_if, DL.w_chain, DL.t_tru, DL.t_tst, DL.t_and, DL.t_or, DL.t_not, DL.p_no, DL.p_some, DL.w_slc, DL.w_m1, DL.w_m0, DL.w_fld, DL.s_nil, DL.s_brk, DL.s_cnt, DL.s_retN, DL.s_raise, DL.s_seq, DL.s_ret, DL.s_exp, DL.s_if, DL.s_set, DL.s_new, DL.s_cel, DL.s_retC, DL.s_par, DL.s_asg, DL.e_add, DL.e_sub, DL.e_mulR, DL.e_mulL, DL.e_modS, DL.e_divS, DL.e_pow, DL.e_lt, DL.e_le, DL.e_gt, DL.e_ge, DL.e_is, DL.e_isN, DL.e_eqI, DL.e_neI, DL.e_eqS, DL.e_neS, DL.h_bl, DL.h_int, DL.h_non, DL.b_bl, DL.i_int, DL.s_str, DL.l_lst, DL.q_lst, DL.q_tup, DL.c_lst, DL.c_seq, DL.c_lis, DL.x_cel, DL.x_lst, DL.x_tup, DL.at_nn, DL.ix_in, DL.p_cel, DL.e_mulIf, DL.e_mulM, DL.t_len, DL.t_intB, DL.start, DL.s_setIx, DL.s_for, DL.i_rng, DL.i_rng2, DL.w_lc, DL.r_one, DL.s_app, DL.g_cel, DL.w_dct0, DL.w_meth, DL.isC_obj, DL.w_make, DL.w_pick, DL.pick_cons, DL.pick_nil, DL.w_own, DL.w_ne, DL.w_obS, DL.cls_obj, DL.fld_obj, DL.w_fmt, DL.w_fs, DL.w_fsNil, DL.w_fsCons, DL.w_isT, DL.w_revA, DL.s_try, DL.s_raiseI, DL.s_tryP, DL.s_endX, DL.w_isXT, DL.i_any, DL.ia_tup, DL.ia_str, DL.ia_lst, DL.ia_scr, DL.ia_cel, DL.gl_glo, DL.w_callA, DL.s_tryN, DL.s_never, DL.s_fld, DL.w_listN, DL.g_seq, DL.g_cons, DL.g_nil, DL.g_nm, DL.t_yes, DL.wipe_cons, DL.wipe_nil, DL.nn_non, DL.nn_int, DL.nn_str, DL.nn_bl, DL.nn_tup, DL.nn_lst, DL.w_fmR, DL.w_owns, DL.w_nes, DL.w_obSs, DL.w_meths, List.map_cons, List.map_nil, List.length_cons, List.length_nil, List.cons_append, List.nil_append, List.append_nil, List.drop_zero, List.drop_nil, List.drop_succ_cons, List.getElem?_cons_zero, List.getElem?_cons_succ, List.set_cons_zero, List.set_cons_succ, List.replicate_succ, List.replicate_zero, Option.join_some, Option.map_some, if_true, if_false, Bool.not_true, Bool.not_false, true_and, and_true, Nat.reduceAdd, Nat.reduceSub, Nat.reduceLeDiff, decide_true, decide_false, Bool.false_eq_true, Option.bind_some, Int.reduceToNat, List.getElem?_set_self, Int.reduceLT, Int.reduceLE, Int.reduceNeg, Int.reduceSub, Int.reduceAdd, Int.reduceMul, Int.reducePow, Nat.reduceLT, Int.reduceEq, ite_self, isIB, isBo, isTu, isSt, isLs, isNon, PG.dfl_Block_init__, PG.dfl_checked_cell, PG.dfl_is_cell, PG.dfl_is_count, PG.dfl_is_end, PG.dfl_is_whole])
section
variable {μ : List M} {d e : D} {i j : Int} {b : Bool} {x : Str} {l : List D}
/-! cells -/
theorem bools_map {f : D → Bool} : ∀ l : List D, bools (l.map fun x => .bl (f x)) = some (l.map f)
  | [] => rfl
  | x :: l => by rw [List.map_cons]; show (bools (l.map fun x => D.bl (f x))).map (f x :: ·) = _; rw [bools_map l]; rfl
theorem all_map {m : List M} {f : D → Bool} {l : List D} : bAll m [.lst (l.map fun x => .bl (f x))] = some (.bl (l.all f)) := by
  show (match lstOf m (.lst (l.map fun x => D.bl (f x))) with | some l => (bools l).map fun bs => D.bl (List.all bs id) | none => none) = _
  rw [l_lst]
  show (bools (l.map fun x => D.bl (f x))).map _ = _
  rw [bools_map]
  show some (D.bl ((l.map f).all id)) = _
  rw [List.all_map]
  rfl
/-! blocks -/
def opt : Option Int → D
  | none => .non
  | some i => .int i
structure Blk where
  t : Int
  l : Int
  b : Option Int
  r : Option Int
abbrev bNs : List Str := ["top", "left", "bottom", "right"]
def blkD (b : Blk) : D := .obj "Block" bNs [.int b.t, .int b.l, opt b.b, opt b.r]
def leO (i : Int) : Option Int → Bool
  | none => true
  | some j => decide (i ≤ j)
structure Blk.Ok (b : Blk) : Prop where
  ot : 1 ≤ b.t
  ol : 1 ≤ b.l
  ob : leO b.t b.b = true
  or_ : leO b.l b.r = true
def blkOk (t l b r : D) : Bool := cnt t && (cnt l && ((match t with | .int i => isEnd i b | _ => false) && match l with | .int i => isEnd i r | _ => false))
theorem kn_end {t : Int} (h : isEnd t d = true) : kn d = true ∧ clean 0 d = true := by
  cases d <;> first | exact ⟨rfl, rfl⟩ | cases h
theorem cnt_int (h : cnt d = true) : ∃ i : Int, d = .int i ∧ 1 ≤ i := by
  cases d <;> first | exact ⟨_, rfl, of_decide_eq_true h⟩ | cases h
theorem x_init {t l b r : D} (hc : Cln μ) (ht : kn t = true) (hl : kn l = true) (hb : kn b = true) (hr : kn r = true) :
    makeD "Block" 5 G_Block_init__ [t, l, b, r] μ = if blkOk t l b r = true then .ok (.obj "Block" bNs [t, l, b, r]) μ else .ex "NoBlock" [] [] μ := by
  have hc2 : Cln (μ ++ [M.obj "Block" [] []]) := hc.snoc rfl
  have hlen : μ.length < (μ ++ [M.obj "Block" [] []]).length := by rw [List.length_append]; exact Nat.lt_succ_self _
  have c1 := x_count hc2 ht
  have c2 := x_count hc2 hl
  have key : (blkOk t l b r = true → ∃ m2, G_Block_init__ [.cel μ.length, t, l, b, r] (μ ++ [M.obj "Block" [] []]) = .ok .non m2 ∧ m2 = μ ++ [M.obj "Block" bNs [t, l, b, r]]) ∧
      (blkOk t l b r = false → G_Block_init__ [.cel μ.length, t, l, b, r] (μ ++ [M.obj "Block" [] []]) = .ex "NoBlock" [] [] (μ ++ [M.obj "Block" [] []])) := by
    constructor
    · intro hok
      unfold blkOk at hok
      have h1 := Bool.and_eq_true_iff.mp hok
      have h2 := Bool.and_eq_true_iff.mp h1.2
      have h3 := Bool.and_eq_true_iff.mp h2.2
      obtain ⟨ti, rfl, t1⟩ := cnt_int h1.1
      obtain ⟨li, rfl, l1⟩ := cnt_int h2.1
      have hb2 : isEnd ti b = true := h3.1
      have hr2 : isEnd li r = true := h3.2
      refine ⟨_, ?_, rfl⟩
      apply eq_ok
      unfold G_Block_init__
      refine wo_fn rfl ?_
      unfold D_Block_init__
      have c3 := x_end (i := ti) hc2 hb
      have c4 := x_end (i := li) hc2 hr
      rw [hb2] at c3
      rw [hr2] at c4
      have k1 := h1.1
      have k2 := h2.1
      rw [k1] at c1
      rw [k2] at c2
      have f1 : celO (μ ++ [M.obj "Block" [] []]) (.cel μ.length) = some (μ.length, ("Block" : Str), ([] : List Str), ([] : List D)) := co_cel List.getElem?_concat_length
      have st : ∀ {a b : M}, (μ ++ [a]).set μ.length b = μ ++ [b] := fun {a b} => by rw [List.set_append_right _ _ (Nat.le_refl _), Nat.sub_self]; rfl
      have f2 : ∀ {ns l}, celO (μ ++ [M.obj "Block" ns l]) (.cel μ.length) = some (μ.length, ("Block" : Str), ns, l) := co_cel List.getElem?_concat_length
      have p1 : putD "top" (.int ti) [] [] = ((["top"] : List Str), ([D.int ti] : List D)) := rfl
      have p2 : putD "left" (.int li) ["top"] [.int ti] = ((["top", "left"] : List Str), ([D.int ti, D.int li] : List D)) := by with_unfolding_all rfl
      have p3 : putD "bottom" b ["top", "left"] [.int ti, .int li] = ((["top", "left", "bottom"] : List Str), ([D.int ti, D.int li, b] : List D)) := by with_unfolding_all rfl
      have p4 : putD "right" r ["top", "left", "bottom"] [.int ti, .int li, b] = ((["top", "left", "bottom", "right"] : List Str), ([D.int ti, D.int li, b, r] : List D)) := by with_unfolding_all rfl
      trivial
      have hcl : cleanM 0 (M.obj "Block" ["top", "left", "bottom", "right"] [.int ti, .int li, b, r]) = true := by
        show (true && (true && (clean 0 b && (clean 0 r && true)))) = true
        rw [(kn_end hb2).2, (kn_end hr2).2]; rfl
      refine ⟨rfl, hc.snoc hcl, rfl, ?_⟩
      rw [List.take_of_length_le (by rw [List.length_append, List.length_append]; exact Nat.le_refl _)]
    · intro hok
      apply eq_ex
      unfold G_Block_init__
      refine wo_fn rfl ?_
      unfold D_Block_init__
      have fin : FR (μ ++ [M.obj "Block" [] []]).length (μ ++ [M.obj "Block" [] []]) .non (fun _ _ => False) ∨ True := .inr ⟨⟩
      have ex : cleans 0 ([] : List D) = true ∧ Cln (μ ++ [M.obj "Block" [] []]) ∧ ("NoBlock" : Str) = "NoBlock" ∧ ([] : List Str) = [] ∧ ([] : List D) = [] ∧ (μ ++ [M.obj "Block" [] []]).take (μ ++ [M.obj "Block" [] []]).length = μ ++ [M.obj "Block" [] []] :=
        ⟨rfl, hc2, rfl, rfl, rfl, List.take_length⟩
      cases k1 : cnt t with
      | false =>
        rw [k1] at c1
        trivial <;> exact ex
      | true =>
        rw [k1] at c1
        cases k2 : cnt l with
        | false =>
          rw [k2] at c2
          trivial <;> exact ex
        | true =>
          rw [k2] at c2
          obtain ⟨ti, rfl, t1⟩ := cnt_int k1
          obtain ⟨li, rfl, l1⟩ := cnt_int k2
          have c3 := x_end (i := ti) hc2 hb
          have c4 := x_end (i := li) hc2 hr
          cases k3 : isEnd ti b with
          | false =>
            rw [k3] at c3
            trivial <;> exact ex
          | true =>
            rw [k3] at c3
            cases k4 : isEnd li r with
            | false =>
              rw [k4] at c4
              trivial <;> exact ex
            | true =>
              exfalso
              unfold blkOk at hok
              rw [k1, k2] at hok
              have hok : (true && (true && (isEnd ti b && isEnd li r))) = false := hok
              rw [k3, k4] at hok
              cases hok
  cases hok : blkOk t l b r with
  | true =>
    obtain ⟨m2, e1, rfl⟩ := key.1 hok
    have hcl : cleans 0 [t, l, b, r] = true := by
      unfold blkOk at hok
      have h1 := Bool.and_eq_true_iff.mp hok
      have h2 := Bool.and_eq_true_iff.mp h1.2
      have h3 := Bool.and_eq_true_iff.mp h2.2
      obtain ⟨ti, rfl, t1⟩ := cnt_int h1.1
      obtain ⟨li, rfl, l1⟩ := cnt_int h2.1
      show (true && (true && (clean 0 b && (clean 0 r && true)))) = true
      rw [(kn_end (t := ti) h3.1).2, (kn_end (t := li) h3.2).2]; rfl
    rw [if_pos rfl]
    exact makeD_ok hc rfl hcl e1
  | false =>
    rw [if_neg Bool.false_ne_true]
    exact makeD_ex hc rfl (key.2 hok)
end
end PG
namespace PG
open PySem PySem.Spec PyProof.Rows L2 DL
local macro_rules | `(tactic| trivial) => `(tactic| simp (config := { dsimp := false }) only [*, eq_self, DL.w_ok, DL.w_ex, DL.w_bind, DL.w_bindS, DL.o_some, DL.w_dC, DL.w_var, DL.w_op, DL.a_nil, DL.a_cons, DL.w_tup, DL.w_lst, DL.w_blt, DL.w_call, DL.w_callN, DL.w_or, DL.w_and, DL.w_not, DL.w_neg, DL.w_if, DL.w_chain, DL.t_tru, DL.t_tst, DL.t_and, DL.t_or, DL.t_not, DL.p_no, DL.p_some, DL.w_slc, DL.w_m1, DL.w_m0, DL.w_fld, DL.s_nil, DL.s_brk, DL.s_cnt, DL.s_retN, DL.s_raise, DL.s_seq, DL.s_ret, DL.s_exp, DL.s_if, DL.s_set, DL.s_new, DL.s_cel, DL.s_retC, DL.s_par, DL.s_asg, DL.e_add, DL.e_sub, DL.e_mulR, DL.e_mulL, DL.e_modS, DL.e_divS, DL.e_pow, DL.e_lt, DL.e_le, DL.e_gt, DL.e_ge, DL.e_is, DL.e_isN, DL.e_eqI, DL.e_neI, DL.e_eqS, DL.e_neS, DL.h_bl, DL.h_int, DL.h_non, DL.b_bl, DL.i_int, DL.s_str, DL.l_lst, DL.q_lst, DL.q_tup, DL.c_lst, DL.c_seq, DL.c_lis, DL.x_cel, DL.x_lst, DL.x_tup, DL.at_nn, DL.ix_in, DL.p_cel, DL.e_mulIf, DL.e_mulM, DL.t_len, DL.t_intB, DL.start, DL.s_setIx, DL.s_for, DL.i_rng, DL.i_rng2, DL.w_lc, DL.r_one, DL.s_app, DL.g_cel, DL.w_dct0, DL.w_meth, DL.isC_obj, DL.w_make, DL.w_pick, DL.pick_cons, DL.pick_nil, DL.w_own, DL.w_ne, DL.w_obS, DL.cls_obj, DL.fld_obj, DL.w_fmt, DL.w_fs, DL.w_fsNil, DL.w_fsCons, DL.w_isT, DL.w_revA, DL.s_try, DL.s_raiseI, DL.s_tryP, DL.s_endX, DL.w_isXT, DL.i_any, DL.ia_tup, DL.ia_str, DL.ia_lst, DL.ia_scr, DL.ia_cel, DL.gl_glo, DL.w_callA, DL.s_tryN, DL.s_never, DL.s_fld, DL.w_listN, DL.g_seq, DL.g_cons, DL.g_nil, DL.g_nm, DL.t_yes, DL.wipe_cons, DL.wipe_nil, DL.nn_non, DL.nn_int, DL.nn_str, DL.nn_bl, DL.nn_tup, DL.nn_lst, DL.w_fmR, DL.w_owns, DL.w_nes, DL.w_obSs, DL.w_meths, List.map_cons, List.map_nil, List.length_cons, List.length_nil, List.cons_append, List.nil_append, List.append_nil, List.drop_zero, List.drop_nil, List.drop_succ_cons, List.getElem?_cons_zero, List.getElem?_cons_succ, List.set_cons_zero, List.set_cons_succ, List.replicate_succ, List.replicate_zero, Option.join_some, Option.map_some, if_true, if_false, Bool.not_true, Bool.not_false, true_and, and_true, Nat.reduceAdd, Nat.reduceSub, Nat.reduceLeDiff, decide_true, decide_false, Bool.false_eq_true, Option.bind_some, Int.reduceToNat, List.getElem?_set_self, Int.reduceLT, Int.reduceLE, Int.reduceNeg, Int.reduceSub, Int.reduceAdd, Int.reduceMul, Int.reducePow, Nat.reduceLT, Int.reduceEq, ite_self, PG.dfl_is_count, PG.dfl_letters_of])
/-! column letters: plain numbers and lists of codes -/
def LOk (l : List Nat) : Prop := ∀ c ∈ l, 65 ≤ c ∧ c ≤ 90
theorem LOk.init {l : List Nat} {c : Nat} (h : LOk (l ++ [c])) : LOk l := fun x hx => h x (List.mem_append_left _ hx)
end PG
namespace PG
open PySem PySem.Spec PyProof.Rows L2 DL
/-! blocks as they are made, their fields -/
section
variable {μ : List M} {d e : D} {i j : Int} {x : Str} {l : List D} {b c : Blk} {o : Option Int}
theorem kn_opt : kn (opt o) = true := by cases o <;> rfl
theorem isNon_opt : isNon (opt o) = o.isNone := by cases o <;> rfl
theorem isEnd_opt {f : Int} (hf : 1 ≤ f) : isEnd f (opt o) = leO f o := by
  cases o with
  | none => rfl
  | some i =>
    show (decide (1 ≤ i) && decide (f ≤ i)) = decide (f ≤ i)
    by_cases h : f ≤ i
    · rw [decide_eq_true h, decide_eq_true (show 1 ≤ i by omega)]; rfl
    · rw [decide_eq_false h, Bool.and_false]
theorem ok_iff : blkOk (.int b.t) (.int b.l) (opt b.b) (opt b.r) = true ↔ b.Ok := by
  unfold blkOk
  rw [Bool.and_eq_true, Bool.and_eq_true, Bool.and_eq_true]
  constructor
  · rintro ⟨h1, h2, h3, h4⟩
    have h1 : 1 ≤ b.t := of_decide_eq_true h1
    have h2 : 1 ≤ b.l := of_decide_eq_true h2
    exact ⟨h1, h2, (isEnd_opt h1).symm.trans h3, (isEnd_opt h2).symm.trans h4⟩
  · intro h
    exact ⟨decide_eq_true h.ot, decide_eq_true h.ol, (isEnd_opt h.ot).trans h.ob, (isEnd_opt h.ol).trans h.or_⟩
theorem x_make (hc : Cln μ) (h : b.Ok) : makeD "Block" 5 G_Block_init__ [.int b.t, .int b.l, opt b.b, opt b.r] μ = .ok (blkD b) μ := by
  rw [x_init hc rfl rfl kn_opt kn_opt, if_pos (ok_iff.mpr h)]
  rfl
theorem c_blk : clsAt μ (blkD b) = some ("Block" : Str) := rfl
theorem f_top : fldAt μ "top" (blkD b) = some (.int b.t) := by with_unfolding_all rfl
theorem f_left : fldAt μ "left" (blkD b) = some (.int b.l) := by with_unfolding_all rfl
theorem f_bottom : fldAt μ "bottom" (blkD b) = some (opt b.b) := by with_unfolding_all rfl
theorem f_right : fldAt μ "right" (blkD b) = some (opt b.r) := by with_unfolding_all rfl
theorem is_has : isC "Block" "has" μ (blkD b) = True := eq_true ⟨rfl, by with_unfolding_all rfl⟩
theorem is_size : isC "Block" "size" μ (blkD b) = True := eq_true ⟨rfl, by with_unfolding_all rfl⟩
end
local macro_rules | `(tactic| trivial) => `(tactic| simp (config := { dsimp := false }) only [*, eq_self, DL.w_ok, DL.w_ex, DL.w_bind, DL.w_bindS, DL.o_some, DL.w_dC, DL.w_var, DL.w_op, DL.a_nil, DL.a_cons, DL.w_tup, DL.w_lst, DL.w_blt, DL.w_call, DL.w_callN, DL.w_or, DL.w_and, DL.w_not, DL.w_neg, DL.w_if, DL.w_chain, DL.t_tru, DL.t_tst, DL.t_and, DL.t_or, DL.t_not, DL.p_no, DL.p_some, DL.w_slc, DL.w_m1, DL.w_m0, DL.w_fld, DL.s_nil, DL.s_brk, DL.s_cnt, DL.s_retN, DL.s_raise, DL.s_seq, DL.s_ret, DL.s_exp, DL.s_if, DL.s_set, DL.s_new, DL.s_cel, DL.s_retC, DL.s_par, DL.s_asg, DL.e_add, DL.e_sub, DL.e_mulR, DL.e_mulL, DL.e_modS, DL.e_divS, DL.e_pow, DL.e_lt, DL.e_le, DL.e_gt, DL.e_ge, DL.e_is, DL.e_isN, DL.e_eqI, DL.e_neI, DL.e_eqS, DL.e_neS, DL.h_bl, DL.h_int, DL.h_non, DL.b_bl, DL.i_int, DL.s_str, DL.l_lst, DL.q_lst, DL.q_tup, DL.c_lst, DL.c_seq, DL.c_lis, DL.x_cel, DL.x_lst, DL.x_tup, DL.at_nn, DL.ix_in, DL.p_cel, DL.e_mulIf, DL.e_mulM, DL.t_len, DL.t_intB, DL.start, DL.s_setIx, DL.s_for, DL.i_rng, DL.i_rng2, DL.w_lc, DL.r_one, DL.s_app, DL.g_cel, DL.w_dct0, DL.w_meth, DL.isC_obj, DL.w_make, DL.w_pick, DL.pick_cons, DL.pick_nil, DL.w_own, DL.w_ne, DL.w_obS, DL.cls_obj, DL.fld_obj, DL.w_fmt, DL.w_fs, DL.w_fsNil, DL.w_fsCons, DL.w_isT, DL.w_revA, DL.s_try, DL.s_raiseI, DL.s_tryP, DL.s_endX, DL.w_isXT, DL.i_any, DL.ia_tup, DL.ia_str, DL.ia_lst, DL.ia_scr, DL.ia_cel, DL.gl_glo, DL.w_callA, DL.s_tryN, DL.s_never, DL.s_fld, DL.w_listN, DL.g_seq, DL.g_cons, DL.g_nil, DL.g_nm, DL.t_yes, DL.wipe_cons, DL.wipe_nil, DL.nn_non, DL.nn_int, DL.nn_str, DL.nn_bl, DL.nn_tup, DL.nn_lst, DL.w_fmR, DL.w_owns, DL.w_nes, DL.w_obSs, DL.w_meths, List.map_cons, List.map_nil, List.length_cons, List.length_nil, List.cons_append, List.nil_append, List.append_nil, List.drop_zero, List.drop_nil, List.drop_succ_cons, List.getElem?_cons_zero, List.getElem?_cons_succ, List.set_cons_zero, List.set_cons_succ, List.replicate_succ, List.replicate_zero, Option.join_some, Option.map_some, if_true, if_false, Bool.not_true, Bool.not_false, true_and, and_true, Nat.reduceAdd, Nat.reduceSub, Nat.reduceLeDiff, decide_true, decide_false, Bool.false_eq_true, Option.bind_some, Int.reduceToNat, List.getElem?_set_self, Int.reduceLT, Int.reduceLE, Int.reduceNeg, Int.reduceSub, Int.reduceAdd, Int.reduceMul, Int.reducePow, Nat.reduceLT, Int.reduceEq, ite_self, c_blk, f_top, f_left, f_bottom, f_right, is_has, is_size, isNon_opt, Option.isNone_none, Option.isNone_some, PG.dfl_Block_eq__, PG.dfl_Block_has, PG.dfl_Block_init__, PG.dfl_Block_size, PG.dfl_checked_cell, PG.dfl_is_count, PG.dfl_is_end])
section
variable {μ : List M} {d e : D} {i j : Int} {x : Str} {l : List D} {b c : Blk} {o : Option Int}
/-- numbers far below 2 ^ 63 -/
structure Blk.Sm (b : Blk) : Prop where
  st : b.t ≤ 10000000000000
  sl : b.l ≤ 10000000000000
  sb : ∀ q, b.b = some q → q ≤ 10000000000000
  sr : ∀ q, b.r = some q → q ≤ 10000000000000
theorem isBlk : bIsU (.inr "Block") μ [blkD b, .glo "Block"] = some (.bl true) := by with_unfolding_all rfl
instance : DecidableEq Blk := fun a b => by
  cases a; cases b
  exact decidable_of_iff' _ (Blk.mk.injEq ..).to_iff
end
end PG
namespace PG
open PySem PySem.Spec PyProof.Rows L2 DL
local macro_rules | `(tactic| trivial) => `(tactic| simp (config := { dsimp := false }) only [*, eq_self, DL.w_ok, DL.w_ex, DL.w_bind, DL.w_bindS, DL.o_some, DL.w_dC, DL.w_var, DL.w_op, DL.a_nil, DL.a_cons, DL.w_tup, DL.w_lst, DL.w_blt, DL.w_call, DL.w_callN, DL.w_or, DL.w_and, DL.w_not, DL.w_neg, DL.w_if, DL.w_chain, DL.t_tru, DL.t_tst, DL.t_and, DL.t_or, DL.t_not, DL.p_no, DL.p_some, DL.w_slc, DL.w_m1, DL.w_m0, DL.w_fld, DL.s_nil, DL.s_brk, DL.s_cnt, DL.s_retN, DL.s_raise, DL.s_seq, DL.s_ret, DL.s_exp, DL.s_if, DL.s_set, DL.s_new, DL.s_cel, DL.s_retC, DL.s_par, DL.s_asg, DL.e_add, DL.e_sub, DL.e_mulR, DL.e_mulL, DL.e_modS, DL.e_divS, DL.e_pow, DL.e_lt, DL.e_le, DL.e_gt, DL.e_ge, DL.e_is, DL.e_isN, DL.e_eqI, DL.e_neI, DL.e_eqS, DL.e_neS, DL.h_bl, DL.h_int, DL.h_non, DL.b_bl, DL.i_int, DL.s_str, DL.l_lst, DL.q_lst, DL.q_tup, DL.c_lst, DL.c_seq, DL.c_lis, DL.x_cel, DL.x_lst, DL.x_tup, DL.at_nn, DL.ix_in, DL.p_cel, DL.e_mulIf, DL.e_mulM, DL.t_len, DL.t_intB, DL.start, DL.s_setIx, DL.s_for, DL.i_rng, DL.i_rng2, DL.w_lc, DL.r_one, DL.s_app, DL.g_cel, DL.w_dct0, DL.w_meth, DL.isC_obj, DL.w_make, DL.w_pick, DL.pick_cons, DL.pick_nil, DL.w_own, DL.w_ne, DL.w_obS, DL.cls_obj, DL.fld_obj, DL.w_fmt, DL.w_fs, DL.w_fsNil, DL.w_fsCons, DL.w_isT, DL.w_revA, DL.s_try, DL.s_raiseI, DL.s_tryP, DL.s_endX, DL.w_isXT, DL.i_any, DL.ia_tup, DL.ia_str, DL.ia_lst, DL.ia_scr, DL.ia_cel, DL.gl_glo, DL.w_callA, DL.s_tryN, DL.s_never, DL.s_fld, DL.w_listN, DL.g_seq, DL.g_cons, DL.g_nil, DL.g_nm, DL.t_yes, DL.wipe_cons, DL.wipe_nil, DL.nn_non, DL.nn_int, DL.nn_str, DL.nn_bl, DL.nn_tup, DL.nn_lst, DL.w_fmR, DL.w_owns, DL.w_nes, DL.w_obSs, DL.w_meths, List.map_cons, List.map_nil, List.length_cons, List.length_nil, List.cons_append, List.nil_append, List.append_nil, List.drop_zero, List.drop_nil, List.drop_succ_cons, List.getElem?_cons_zero, List.getElem?_cons_succ, List.set_cons_zero, List.set_cons_succ, List.replicate_succ, List.replicate_zero, Option.join_some, Option.map_some, if_true, if_false, Bool.not_true, Bool.not_false, true_and, and_true, Nat.reduceAdd, Nat.reduceSub, Nat.reduceLeDiff, decide_true, decide_false, Bool.false_eq_true, Option.bind_some, Int.reduceToNat, List.getElem?_set_self, Int.reduceLT, Int.reduceLE, Int.reduceNeg, Int.reduceSub, Int.reduceAdd, Int.reduceMul, Int.reducePow, Nat.reduceLT, Int.reduceEq, ite_self, c_blk, f_top, f_left, f_bottom, f_right, is_has, is_size, PG.dfl_Block_repr__, PG.dfl_Block_size, PG.dfl_Block_str__, PG.dfl_by_ends, PG.dfl_column_text, PG.dfl_is_columns, PG.dfl_is_count, PG.dfl_is_rows, PG.dfl_letters_ahead, PG.dfl_letters_of, PG.dfl_row_text])
section
variable {μ : List M} {d e : D} {i j : Int} {x : Str} {l : List D} {b c : Blk} {o : Option Int}
/-! texts of ends -/
theorem str_len_app (x y : Str) : (x ++ y).length = x.length + y.length := Array.size_append
def numS (i : Int) : Str := Str.ofString (toString i)
def SmO (o : Option Int) : Prop := ∀ i, o = some i → 1 ≤ i ∧ i ≤ 10000000000000
theorem log_sm {i : Int} (h : 1 ≤ i) (h2 : i ≤ 10000000000000) : i.natAbs.log2 < 1920 := by
  have h3 : i.natAbs < 2 ^ 1920 := by
    have : i.natAbs ≤ 10000000000000 := by omega
    exact Nat.lt_of_le_of_lt this (by decide)
  exact (Nat.log2_lt (by omega)).mpr h3
theorem numS_len {i : Int} (h : 1 ≤ i) (h2 : i ≤ 10000000000000) : (numS i).length ≤ 14 :=
  toString_length_le (by omega) (by decide) (by
    have : (10 : Int) ^ 14 = 100000000000000 := by decide
    omega)
theorem add_s {x y : Str} (h : x.length + y.length ≤ 100000) : opAdd μ (.str x) (.str y) = some (.str (x ++ y)) := by
  rw [e_addS, if_pos h]
theorem Blk.smt (hk : b.Ok) (hs : b.Sm) : SmO (some b.t) ∧ SmO b.b ∧ SmO (some b.l) ∧ SmO b.r := by
  refine ⟨fun i e => ?_, fun i e => ?_, fun i e => ?_, fun i e => ?_⟩
  · cases e; exact ⟨hk.ot, hs.st⟩
  · have h1 := hk.ob
    rw [e] at h1
    have h2 : b.t ≤ i := of_decide_eq_true h1
    have := hk.ot
    exact ⟨by omega, hs.sb i e⟩
  · cases e; exact ⟨hk.ol, hs.sl⟩
  · have h1 := hk.or_
    rw [e] at h1
    have h2 : b.l ≤ i := of_decide_eq_true h1
    have := hk.ol
    exact ⟨by omega, hs.sr i e⟩
def noneS : Option Int → Str
  | none => "None"
  | some i => numS i
theorem fmt_opt (h : SmO o) : fmtS (opt o) = some (noneS o) := by
  cases o with
  | none => rfl
  | some i =>
    show (if i.natAbs.log2 < 1920 then some (toString i : Str) else none) = _
    rw [if_pos (log_sm (h i rfl).1 (h i rfl).2)]
    rfl
theorem noneS_len (h : SmO o) : (noneS o).length ≤ 14 := by
  cases o with
  | none => decide
  | some i => exact numS_len (h i rfl).1 (h i rfl).2
/-- what repr tells of a block -/
def reprB (b : Blk) : Str := Str.empty ++ "Block(" ++ noneS (some b.t) ++ ", " ++ noneS (some b.l) ++ ", " ++ noneS b.b ++ ", " ++ noneS b.r ++ ")"
theorem x_repr (hc : Cln μ) (hk : b.Ok) (hs : b.Sm) : G_Block_repr__ [blkD b] μ = .ok (.str (reprB b)) μ := by
  apply eq_ok
  unfold G_Block_repr__
  refine wo_fn rfl ?_
  unfold D_Block_repr__
  obtain ⟨s1, s2, s3, s4⟩ := Blk.smt hk hs
  have f1 := fmt_opt s1
  have f2 := fmt_opt s2
  have f3 := fmt_opt s3
  have f4 := fmt_opt s4
  have e0 : ∀ i : Int, opt (some i) = .int i := fun _ => rfl
  rw [e0] at f1 f3
  have l1 := noneS_len s1
  have l2 := noneS_len s2
  have l3 := noneS_len s3
  have l4 := noneS_len s4
  have L := str_len_app
  have k1 : ("Block(" : Str).length = 6 := rfl
  have k2 : (", " : Str).length = 2 := rfl
  have k3 : (")" : Str).length = 1 := rfl
  have k4 : Str.empty.length = 0 := rfl
  clear s1 s2 s3 s4
  have hh : ∀ {p q : Prop}, p → q → (p ∧ q) := fun a b => ⟨a, b⟩
  simp (config := { dsimp := false }) only [f1, f2, f3, f4, DL.start, s_ret, w_fs, w_fsCons, w_fsNil, w_dC, w_fmt, w_fld, w_var, o_some, s_str, c_blk, f_top, f_left, f_bottom, f_right, List.map_cons, List.map_nil, List.length_cons, List.length_nil, Nat.reduceAdd, Nat.reduceSub, List.replicate_zero, List.append_nil, List.getElem?_cons_zero, Option.join_some, Option.bind_some, L, k1, k2, k3, k4]
  refine ⟨by omega, by omega, by omega, by omega, by omega, by omega, by omega, by omega, by omega, ?_⟩
  refine fr_same hc rfl ?_
  exact ⟨rfl, rfl⟩
end
end PG
namespace PG
open PySem PySem.Spec PyProof.Rows L2 DL
local macro_rules | `(tactic| trivial) => `(tactic| simp (config := { dsimp := false }) only [*, eq_self, DL.w_ok, DL.w_ex, DL.w_bind, DL.w_bindS, DL.o_some, DL.w_dC, DL.w_var, DL.w_op, DL.a_nil, DL.a_cons, DL.w_tup, DL.w_lst, DL.w_blt, DL.w_call, DL.w_callN, DL.w_or, DL.w_and, DL.w_not, DL.w_neg, DL.w_if, DL.w_chain, DL.t_tru, DL.t_tst, DL.t_and, DL.t_or, DL.t_not, DL.p_no, DL.p_some, DL.w_slc, DL.w_m1, DL.w_m0, DL.w_fld, DL.s_nil, DL.s_brk, DL.s_cnt, DL.s_retN, DL.s_raise, DL.s_seq, DL.s_ret, DL.s_exp, DL.s_if, DL.s_set, DL.s_new, DL.s_cel, DL.s_retC, DL.s_par, DL.s_asg, DL.e_add, DL.e_sub, DL.e_mulR, DL.e_mulL, DL.e_modS, DL.e_divS, DL.e_pow, DL.e_lt, DL.e_le, DL.e_gt, DL.e_ge, DL.e_is, DL.e_isN, DL.e_eqI, DL.e_neI, DL.e_eqS, DL.e_neS, DL.h_bl, DL.h_int, DL.h_non, DL.b_bl, DL.i_int, DL.s_str, DL.l_lst, DL.q_lst, DL.q_tup, DL.c_lst, DL.c_seq, DL.c_lis, DL.x_cel, DL.x_lst, DL.x_tup, DL.at_nn, DL.ix_in, DL.p_cel, DL.e_mulIf, DL.e_mulM, DL.t_len, DL.t_intB, DL.start, DL.s_setIx, DL.s_for, DL.i_rng, DL.i_rng2, DL.w_lc, DL.r_one, DL.s_app, DL.g_cel, DL.w_dct0, DL.w_meth, DL.isC_obj, DL.w_make, DL.w_pick, DL.pick_cons, DL.pick_nil, DL.w_own, DL.w_ne, DL.w_obS, DL.cls_obj, DL.fld_obj, DL.w_fmt, DL.w_fs, DL.w_fsNil, DL.w_fsCons, DL.w_isT, DL.w_revA, DL.s_try, DL.s_raiseI, DL.s_tryP, DL.s_endX, DL.w_isXT, DL.i_any, DL.ia_tup, DL.ia_str, DL.ia_lst, DL.ia_scr, DL.ia_cel, DL.gl_glo, DL.w_callA, DL.s_tryN, DL.s_never, DL.s_fld, DL.w_listN, DL.g_seq, DL.g_cons, DL.g_nil, DL.g_nm, DL.t_yes, DL.wipe_cons, DL.wipe_nil, DL.nn_non, DL.nn_int, DL.nn_str, DL.nn_bl, DL.nn_tup, DL.nn_lst, DL.w_fmR, DL.w_owns, DL.w_nes, DL.w_obSs, DL.w_meths, List.map_cons, List.map_nil, List.length_cons, List.length_nil, List.cons_append, List.nil_append, List.append_nil, List.drop_zero, List.drop_nil, List.drop_succ_cons, List.getElem?_cons_zero, List.getElem?_cons_succ, List.set_cons_zero, List.set_cons_succ, List.replicate_succ, List.replicate_zero, Option.join_some, Option.map_some, if_true, if_false, Bool.not_true, Bool.not_false, true_and, and_true, Nat.reduceAdd, Nat.reduceSub, Nat.reduceLeDiff, decide_true, decide_false, Bool.false_eq_true, Option.bind_some, Int.reduceToNat, List.getElem?_set_self, Int.reduceLT, Int.reduceLE, Int.reduceNeg, Int.reduceSub, Int.reduceAdd, Int.reduceMul, Int.reducePow, Nat.reduceLT, Int.reduceEq, ite_self, PG.dfl_Change_checked, PG.dfl_PutColumns_eq__, PG.dfl_PutColumns_init__, PG.dfl_PutColumns_repr__, PG.dfl_PutColumns_undoing, PG.dfl_PutRows_eq__, PG.dfl_PutRows_init__, PG.dfl_PutRows_repr__, PG.dfl_PutRows_undoing, PG.dfl_TakeColumns_eq__, PG.dfl_TakeColumns_init__, PG.dfl_TakeColumns_repr__, PG.dfl_TakeColumns_undoing, PG.dfl_TakeRows_eq__, PG.dfl_TakeRows_init__, PG.dfl_TakeRows_repr__, PG.dfl_TakeRows_undoing, PG.dfl_is_count, PG.dfl_is_whole, PG.dfl_law_alone, PG.dfl_law_lines])
/-! changes of lines: as they are made, their texts, == and undoing -/
abbrev cNs : List Str := ["at", "many"]
def chD (c : Str) (a m : Int) : D := .obj c cNs [.int a, .int m]
section
variable {μ : List M} {d e s : D} {a m b n : Int} {l : List D} {c : Str}
theorem x_checked31 (hc : Cln μ) (hk : ∀ x ∈ l, kn x = true) (hl : l.length ≤ 100000) : G_Change_checked [s, .lst l] μ = if l.all cnt = true then .ok .non μ else .ex "NoChange" [] [] μ := by
  have e3 := lc_map (m := μ) (g := fun _ => True) (tg := gNm 2) (el := dCall 1 G_is_count [] (aCons (dVar 2) aNil)) (env0 := [some s, some (.lst l), none]) (fun x => .bl (cnt x)) ⟨⟩ l (fun x hx => ⟨_, rfl, by
    have e4 := x_count hc (hk x hx)
    apply eq_ok
    trivial⟩) hl
  have e5 := all_map (m := μ) (f := cnt) (l := l)
  cases hd : l.all cnt with
  | true =>
    rw [if_pos rfl]
    rw [hd] at e5
    apply eq_ok
    unfold G_Change_checked
    refine wo_fn rfl ?_
    unfold D_Change_checked
    trivial
    exact fr_same hc rfl ⟨rfl, rfl⟩
  | false =>
    rw [if_neg Bool.false_ne_true]
    rw [hd] at e5
    apply eq_ex
    unfold G_Change_checked
    refine wo_fn rfl ?_
    unfold D_Change_checked
    trivial
    exact ⟨rfl, List.take_length⟩
theorem chk2 (hc : Cln μ) (h1 : kn d = true) (h2 : kn e = true) : G_Change_checked [s, .lst [d, e]] μ = if (cnt d && cnt e) = true then .ok .non μ else .ex "NoChange" [] [] μ := by
  rw [x_checked31 hc (fun x hx => by
    simp only [List.mem_cons, List.not_mem_nil, or_false] at hx
    rcases hx with rfl | rfl
    · exact h1
    · exact h2) (by show 2 ≤ _; omega)]
  rw [show List.all [d, e] cnt = (cnt d && cnt e) by show (cnt d && (cnt e && true)) = _; rw [Bool.and_true]]
theorem cnt_cl (h : cnt d = true) : clean 0 d = true := by
  obtain ⟨i, rfl, -⟩ := cnt_int h
  rfl
theorem setE {x y : M} {m : List M} : (m ++ [x]).set m.length y = m ++ [y] := by
  rw [List.set_append_right _ _ (Nat.le_refl _), Nat.sub_self]; rfl
theorem is_chk_PutRows : isC "PutRows" "checked" (μ ++ [M.obj "PutRows" [] []]) (.cel μ.length) = True := eq_true ⟨by
  show (match (μ ++ [M.obj "PutRows" [] []])[μ.length]? with | some (.obj c _ _) => some c | _ => none) = _
  rw [List.getElem?_concat_length], by
  show (match (μ ++ [M.obj "PutRows" [] []])[μ.length]? with | some (.obj c ns l) => fldOf "checked" ns l | _ => none).isNone = true
  rw [List.getElem?_concat_length]; rfl⟩
theorem init_PutRows (hc : Cln μ) (h1 : kn d = true) (h2 : kn e = true) :
    makeD "PutRows" 3 G_PutRows_init__ [d, e] μ = if (cnt d && cnt e) = true then .ok (.obj "PutRows" cNs [d, e]) μ else .ex "NoChange" [] [] μ := by
  have hc2 : Cln (μ ++ [M.obj "PutRows" [] []]) := hc.snoc rfl
  have k1 := chk2 (s := .cel μ.length) hc2 h1 h2
  have is1 := is_chk_PutRows (μ := μ)
  cases hok : (cnt d && cnt e) with
  | true =>
    rw [if_pos rfl]
    rw [hok, if_pos rfl] at k1
    have hd := cnt_cl (Bool.and_eq_true_iff.mp hok).1
    have he := cnt_cl (Bool.and_eq_true_iff.mp hok).2
    have hcl : cleans 0 [d, e] = true := by
      show (clean 0 d && (clean 0 e && true)) = true
      rw [hd, he]; rfl
    refine makeD_ok hc rfl hcl ?_
    apply eq_ok
    unfold G_PutRows_init__
    refine wo_fn rfl ?_
    unfold D_PutRows_init__
    have f1 : celO (μ ++ [M.obj "PutRows" [] []]) (.cel μ.length) = some (μ.length, ("PutRows" : Str), ([] : List Str), ([] : List D)) := co_cel List.getElem?_concat_length
    have st : ∀ {a b : M}, (μ ++ [a]).set μ.length b = μ ++ [b] := setE
    have f2 : ∀ {ns l}, celO (μ ++ [M.obj "PutRows" ns l]) (.cel μ.length) = some (μ.length, ("PutRows" : Str), ns, l) := co_cel List.getElem?_concat_length
    have p1 : putD "at" d [] [] = ((["at"] : List Str), ([d] : List D)) := rfl
    have p2 : putD "many" e ["at"] [d] = ((["at", "many"] : List Str), ([d, e] : List D)) := by with_unfolding_all rfl
    trivial
    refine ⟨rfl, hc.snoc hcl, rfl, ?_⟩
    rw [List.take_of_length_le (by rw [List.length_append, List.length_append]; exact Nat.le_refl _)]
  | false =>
    rw [if_neg Bool.false_ne_true]
    rw [hok, if_neg Bool.false_ne_true] at k1
    refine makeD_ex hc rfl ?_
    apply eq_ex
    unfold G_PutRows_init__
    refine wo_fn rfl ?_
    unfold D_PutRows_init__
    trivial
    exact ⟨rfl, List.take_length⟩
theorem is_chk_TakeRows : isC "TakeRows" "checked" (μ ++ [M.obj "TakeRows" [] []]) (.cel μ.length) = True := eq_true ⟨by
  show (match (μ ++ [M.obj "TakeRows" [] []])[μ.length]? with | some (.obj c _ _) => some c | _ => none) = _
  rw [List.getElem?_concat_length], by
  show (match (μ ++ [M.obj "TakeRows" [] []])[μ.length]? with | some (.obj c ns l) => fldOf "checked" ns l | _ => none).isNone = true
  rw [List.getElem?_concat_length]; rfl⟩
theorem init_TakeRows (hc : Cln μ) (h1 : kn d = true) (h2 : kn e = true) :
    makeD "TakeRows" 3 G_TakeRows_init__ [d, e] μ = if (cnt d && cnt e) = true then .ok (.obj "TakeRows" cNs [d, e]) μ else .ex "NoChange" [] [] μ := by
  have hc2 : Cln (μ ++ [M.obj "TakeRows" [] []]) := hc.snoc rfl
  have k1 := chk2 (s := .cel μ.length) hc2 h1 h2
  have is1 := is_chk_TakeRows (μ := μ)
  cases hok : (cnt d && cnt e) with
  | true =>
    rw [if_pos rfl]
    rw [hok, if_pos rfl] at k1
    have hd := cnt_cl (Bool.and_eq_true_iff.mp hok).1
    have he := cnt_cl (Bool.and_eq_true_iff.mp hok).2
    have hcl : cleans 0 [d, e] = true := by
      show (clean 0 d && (clean 0 e && true)) = true
      rw [hd, he]; rfl
    refine makeD_ok hc rfl hcl ?_
    apply eq_ok
    unfold G_TakeRows_init__
    refine wo_fn rfl ?_
    unfold D_TakeRows_init__
    have f1 : celO (μ ++ [M.obj "TakeRows" [] []]) (.cel μ.length) = some (μ.length, ("TakeRows" : Str), ([] : List Str), ([] : List D)) := co_cel List.getElem?_concat_length
    have st : ∀ {a b : M}, (μ ++ [a]).set μ.length b = μ ++ [b] := setE
    have f2 : ∀ {ns l}, celO (μ ++ [M.obj "TakeRows" ns l]) (.cel μ.length) = some (μ.length, ("TakeRows" : Str), ns, l) := co_cel List.getElem?_concat_length
    have p1 : putD "at" d [] [] = ((["at"] : List Str), ([d] : List D)) := rfl
    have p2 : putD "many" e ["at"] [d] = ((["at", "many"] : List Str), ([d, e] : List D)) := by with_unfolding_all rfl
    trivial
    refine ⟨rfl, hc.snoc hcl, rfl, ?_⟩
    rw [List.take_of_length_le (by rw [List.length_append, List.length_append]; exact Nat.le_refl _)]
  | false =>
    rw [if_neg Bool.false_ne_true]
    rw [hok, if_neg Bool.false_ne_true] at k1
    refine makeD_ex hc rfl ?_
    apply eq_ex
    unfold G_TakeRows_init__
    refine wo_fn rfl ?_
    unfold D_TakeRows_init__
    trivial
    exact ⟨rfl, List.take_length⟩
theorem is_chk_PutColumns : isC "PutColumns" "checked" (μ ++ [M.obj "PutColumns" [] []]) (.cel μ.length) = True := eq_true ⟨by
  show (match (μ ++ [M.obj "PutColumns" [] []])[μ.length]? with | some (.obj c _ _) => some c | _ => none) = _
  rw [List.getElem?_concat_length], by
  show (match (μ ++ [M.obj "PutColumns" [] []])[μ.length]? with | some (.obj c ns l) => fldOf "checked" ns l | _ => none).isNone = true
  rw [List.getElem?_concat_length]; rfl⟩
theorem init_PutColumns (hc : Cln μ) (h1 : kn d = true) (h2 : kn e = true) :
    makeD "PutColumns" 3 G_PutColumns_init__ [d, e] μ = if (cnt d && cnt e) = true then .ok (.obj "PutColumns" cNs [d, e]) μ else .ex "NoChange" [] [] μ := by
  have hc2 : Cln (μ ++ [M.obj "PutColumns" [] []]) := hc.snoc rfl
  have k1 := chk2 (s := .cel μ.length) hc2 h1 h2
  have is1 := is_chk_PutColumns (μ := μ)
  cases hok : (cnt d && cnt e) with
  | true =>
    rw [if_pos rfl]
    rw [hok, if_pos rfl] at k1
    have hd := cnt_cl (Bool.and_eq_true_iff.mp hok).1
    have he := cnt_cl (Bool.and_eq_true_iff.mp hok).2
    have hcl : cleans 0 [d, e] = true := by
      show (clean 0 d && (clean 0 e && true)) = true
      rw [hd, he]; rfl
    refine makeD_ok hc rfl hcl ?_
    apply eq_ok
    unfold G_PutColumns_init__
    refine wo_fn rfl ?_
    unfold D_PutColumns_init__
    have f1 : celO (μ ++ [M.obj "PutColumns" [] []]) (.cel μ.length) = some (μ.length, ("PutColumns" : Str), ([] : List Str), ([] : List D)) := co_cel List.getElem?_concat_length
    have st : ∀ {a b : M}, (μ ++ [a]).set μ.length b = μ ++ [b] := setE
    have f2 : ∀ {ns l}, celO (μ ++ [M.obj "PutColumns" ns l]) (.cel μ.length) = some (μ.length, ("PutColumns" : Str), ns, l) := co_cel List.getElem?_concat_length
    have p1 : putD "at" d [] [] = ((["at"] : List Str), ([d] : List D)) := rfl
    have p2 : putD "many" e ["at"] [d] = ((["at", "many"] : List Str), ([d, e] : List D)) := by with_unfolding_all rfl
    trivial
    refine ⟨rfl, hc.snoc hcl, rfl, ?_⟩
    rw [List.take_of_length_le (by rw [List.length_append, List.length_append]; exact Nat.le_refl _)]
  | false =>
    rw [if_neg Bool.false_ne_true]
    rw [hok, if_neg Bool.false_ne_true] at k1
    refine makeD_ex hc rfl ?_
    apply eq_ex
    unfold G_PutColumns_init__
    refine wo_fn rfl ?_
    unfold D_PutColumns_init__
    trivial
    exact ⟨rfl, List.take_length⟩
theorem is_chk_TakeColumns : isC "TakeColumns" "checked" (μ ++ [M.obj "TakeColumns" [] []]) (.cel μ.length) = True := eq_true ⟨by
  show (match (μ ++ [M.obj "TakeColumns" [] []])[μ.length]? with | some (.obj c _ _) => some c | _ => none) = _
  rw [List.getElem?_concat_length], by
  show (match (μ ++ [M.obj "TakeColumns" [] []])[μ.length]? with | some (.obj c ns l) => fldOf "checked" ns l | _ => none).isNone = true
  rw [List.getElem?_concat_length]; rfl⟩
theorem init_TakeColumns (hc : Cln μ) (h1 : kn d = true) (h2 : kn e = true) :
    makeD "TakeColumns" 3 G_TakeColumns_init__ [d, e] μ = if (cnt d && cnt e) = true then .ok (.obj "TakeColumns" cNs [d, e]) μ else .ex "NoChange" [] [] μ := by
  have hc2 : Cln (μ ++ [M.obj "TakeColumns" [] []]) := hc.snoc rfl
  have k1 := chk2 (s := .cel μ.length) hc2 h1 h2
  have is1 := is_chk_TakeColumns (μ := μ)
  cases hok : (cnt d && cnt e) with
  | true =>
    rw [if_pos rfl]
    rw [hok, if_pos rfl] at k1
    have hd := cnt_cl (Bool.and_eq_true_iff.mp hok).1
    have he := cnt_cl (Bool.and_eq_true_iff.mp hok).2
    have hcl : cleans 0 [d, e] = true := by
      show (clean 0 d && (clean 0 e && true)) = true
      rw [hd, he]; rfl
    refine makeD_ok hc rfl hcl ?_
    apply eq_ok
    unfold G_TakeColumns_init__
    refine wo_fn rfl ?_
    unfold D_TakeColumns_init__
    have f1 : celO (μ ++ [M.obj "TakeColumns" [] []]) (.cel μ.length) = some (μ.length, ("TakeColumns" : Str), ([] : List Str), ([] : List D)) := co_cel List.getElem?_concat_length
    have st : ∀ {a b : M}, (μ ++ [a]).set μ.length b = μ ++ [b] := setE
    have f2 : ∀ {ns l}, celO (μ ++ [M.obj "TakeColumns" ns l]) (.cel μ.length) = some (μ.length, ("TakeColumns" : Str), ns, l) := co_cel List.getElem?_concat_length
    have p1 : putD "at" d [] [] = ((["at"] : List Str), ([d] : List D)) := rfl
    have p2 : putD "many" e ["at"] [d] = ((["at", "many"] : List Str), ([d, e] : List D)) := by with_unfolding_all rfl
    trivial
    refine ⟨rfl, hc.snoc hcl, rfl, ?_⟩
    rw [List.take_of_length_le (by rw [List.length_append, List.length_append]; exact Nat.le_refl _)]
  | false =>
    rw [if_neg Bool.false_ne_true]
    rw [hok, if_neg Bool.false_ne_true] at k1
    refine makeD_ex hc rfl ?_
    apply eq_ex
    unfold G_TakeColumns_init__
    refine wo_fn rfl ?_
    unfold D_TakeColumns_init__
    trivial
    exact ⟨rfl, List.take_length⟩
end
/-- the class of each way -/
def way4 (w : Int) : Str := if w = 0 then "PutRows" else if w = 1 then "TakeRows" else if w = 2 then "PutColumns" else "TakeColumns"
section
variable {μ : List M} {d e s : D} {a m b n : Int} {l : List D} {c : Str}
theorem way_cases {w : Int} (h0 : 0 ≤ w) (h1 : w < 4) : w = 0 ∨ w = 1 ∨ w = 2 ∨ w = 3 := by omega
theorem x_lines {w : Int} (hc : Cln μ) (w0 : 0 ≤ w) (w1 : w < 4) (h1 : kn d = true) (h2 : kn e = true) :
    G_law_lines [.int w, d, e] μ = if (cnt d && cnt e) = true then .ok (.obj (way4 w) cNs [d, e]) μ else .ex "NoChange" [] [] μ := by
  have i0 := init_PutRows hc h1 h2
  have i1 := init_TakeRows hc h1 h2
  have i2 := init_PutColumns hc h1 h2
  have i3 := init_TakeColumns hc h1 h2
  have hw := way_cases w0 w1
  cases hok : (cnt d && cnt e) with
  | true =>
    rw [if_pos rfl]
    rw [hok, if_pos rfl] at i0 i1 i2 i3
    have hd := cnt_cl (Bool.and_eq_true_iff.mp hok).1
    have he := cnt_cl (Bool.and_eq_true_iff.mp hok).2
    have hcl : ∀ c : Str, clean 0 (.obj c cNs [d, e]) = true := fun _ => by
      show (clean 0 d && (clean 0 e && true)) = true
      rw [hd, he]; rfl
    clear h1 h2 hok hd he w0 w1
    apply eq_ok
    unfold G_law_lines
    refine wo_fn rfl ?_
    unfold D_law_lines
    rcases hw with rfl | rfl | rfl | rfl <;> (trivial; exact fr_same hc (hcl _) ⟨rfl, rfl⟩)
  | false =>
    rw [if_neg Bool.false_ne_true]
    rw [hok, if_neg Bool.false_ne_true] at i0 i1 i2 i3
    clear h1 h2 hok w0 w1
    apply eq_ex
    unfold G_law_lines
    refine wo_fn rfl ?_
    unfold D_law_lines
    rcases hw with rfl | rfl | rfl | rfl <;> (trivial; exact ⟨rfl, List.take_length⟩)
theorem x_linesC {w : Int} (hc : Cln μ) (w0 : 0 ≤ w) (w1 : w < 4) (h1 : 1 ≤ a) (h2 : 1 ≤ m) : G_law_lines [.int w, .int a, .int m] μ = .ok (chD (way4 w) a m) μ := by
  rw [x_lines hc w0 w1 rfl rfl, if_pos (by show (decide (1 ≤ a) && decide (1 ≤ m)) = true; rw [decide_eq_true h1, decide_eq_true h2]; rfl)]
  rfl
theorem x_alone {w : Int} (hc : Cln μ) (w0 : 0 ≤ w) (w1 : w < 4) (h1 : 1 ≤ a) : G_law_alone [.int w, .int a] μ = .ok (chD (way4 w) a 1) μ := by
  have ok : (cnt (.int a) && cnt (.int 1)) = true := by show (decide (1 ≤ a) && true) = true; rw [decide_eq_true h1]; rfl
  have i0 := init_PutRows (d := .int a) (e := .int 1) hc rfl rfl
  have i1 := init_TakeRows (d := .int a) (e := .int 1) hc rfl rfl
  have i2 := init_PutColumns (d := .int a) (e := .int 1) hc rfl rfl
  have i3 := init_TakeColumns (d := .int a) (e := .int 1) hc rfl rfl
  have hw := way_cases w0 w1
  rw [ok, if_pos rfl] at i0 i1 i2 i3
  clear h1 ok w0 w1
  apply eq_ok
  unfold G_law_alone
  refine wo_fn rfl ?_
  unfold D_law_alone
  rcases hw with rfl | rfl | rfl | rfl <;> (trivial; exact fr_same hc rfl ⟨rfl, rfl⟩)
theorem c_ch : clsAt μ (chD c a m) = some c := rfl
theorem f_at : fldAt μ "at" (chD c a m) = some (.int a) := by with_unfolding_all rfl
theorem f_many : fldAt μ "many" (chD c a m) = some (.int m) := by with_unfolding_all rfl
theorem f_undo : fldAt μ "undoing" (chD c a m) = none := by with_unfolding_all rfl
theorem tag_ch : tagOf μ (chD c a m) = some (.inr c) := rfl
theorem isT_PutRows : bIsU (.inr "PutRows") μ [chD c a m, .glo "PutRows"] = some (.bl (isSub (.inr c) (.inr "PutRows"))) := by with_unfolding_all rfl
theorem isT_TakeRows : bIsU (.inr "TakeRows") μ [chD c a m, .glo "TakeRows"] = some (.bl (isSub (.inr c) (.inr "TakeRows"))) := by with_unfolding_all rfl
theorem isT_PutColumns : bIsU (.inr "PutColumns") μ [chD c a m, .glo "PutColumns"] = some (.bl (isSub (.inr c) (.inr "PutColumns"))) := by with_unfolding_all rfl
theorem isT_TakeColumns : bIsU (.inr "TakeColumns") μ [chD c a m, .glo "TakeColumns"] = some (.bl (isSub (.inr c) (.inr "TakeColumns"))) := by with_unfolding_all rfl
theorem isT_Move : bIsU (.inr "Move") μ [chD c a m, .glo "Move"] = some (.bl (isSub (.inr c) (.inr "Move"))) := by with_unfolding_all rfl
theorem isT_Change : bIsU (.inr "Change") μ [chD c a m, .glo "Change"] = some (.bl (isSub (.inr c) (.inr "Change"))) := by with_unfolding_all rfl
theorem sub_PutRows_PutRows : isSub (.inr "PutRows") (.inr "PutRows") = true := by with_unfolding_all rfl
theorem sub_PutRows_TakeRows : isSub (.inr "PutRows") (.inr "TakeRows") = false := by with_unfolding_all rfl
theorem sub_PutRows_PutColumns : isSub (.inr "PutRows") (.inr "PutColumns") = false := by with_unfolding_all rfl
theorem sub_PutRows_TakeColumns : isSub (.inr "PutRows") (.inr "TakeColumns") = false := by with_unfolding_all rfl
theorem sub_PutRows_Move : isSub (.inr "PutRows") (.inr "Move") = false := by with_unfolding_all rfl
theorem sub_PutRows_Change : isSub (.inr "PutRows") (.inr "Change") = true := by with_unfolding_all rfl
theorem sub_TakeRows_PutRows : isSub (.inr "TakeRows") (.inr "PutRows") = false := by with_unfolding_all rfl
theorem sub_TakeRows_TakeRows : isSub (.inr "TakeRows") (.inr "TakeRows") = true := by with_unfolding_all rfl
theorem sub_TakeRows_PutColumns : isSub (.inr "TakeRows") (.inr "PutColumns") = false := by with_unfolding_all rfl
theorem sub_TakeRows_TakeColumns : isSub (.inr "TakeRows") (.inr "TakeColumns") = false := by with_unfolding_all rfl
theorem sub_TakeRows_Move : isSub (.inr "TakeRows") (.inr "Move") = false := by with_unfolding_all rfl
theorem sub_TakeRows_Change : isSub (.inr "TakeRows") (.inr "Change") = true := by with_unfolding_all rfl
theorem sub_PutColumns_PutRows : isSub (.inr "PutColumns") (.inr "PutRows") = false := by with_unfolding_all rfl
theorem sub_PutColumns_TakeRows : isSub (.inr "PutColumns") (.inr "TakeRows") = false := by with_unfolding_all rfl
theorem sub_PutColumns_PutColumns : isSub (.inr "PutColumns") (.inr "PutColumns") = true := by with_unfolding_all rfl
theorem sub_PutColumns_TakeColumns : isSub (.inr "PutColumns") (.inr "TakeColumns") = false := by with_unfolding_all rfl
theorem sub_PutColumns_Move : isSub (.inr "PutColumns") (.inr "Move") = false := by with_unfolding_all rfl
theorem sub_PutColumns_Change : isSub (.inr "PutColumns") (.inr "Change") = true := by with_unfolding_all rfl
theorem sub_TakeColumns_PutRows : isSub (.inr "TakeColumns") (.inr "PutRows") = false := by with_unfolding_all rfl
theorem sub_TakeColumns_TakeRows : isSub (.inr "TakeColumns") (.inr "TakeRows") = false := by with_unfolding_all rfl
theorem sub_TakeColumns_PutColumns : isSub (.inr "TakeColumns") (.inr "PutColumns") = false := by with_unfolding_all rfl
theorem sub_TakeColumns_TakeColumns : isSub (.inr "TakeColumns") (.inr "TakeColumns") = true := by with_unfolding_all rfl
theorem sub_TakeColumns_Move : isSub (.inr "TakeColumns") (.inr "Move") = false := by with_unfolding_all rfl
theorem sub_TakeColumns_Change : isSub (.inr "TakeColumns") (.inr "Change") = true := by with_unfolding_all rfl
theorem numS_fmt {i : Int} (h : 1 ≤ i) (h2 : i ≤ 10000000000000) : fmtS (.int i) = some (numS i) := by
  show (if i.natAbs.log2 < 1920 then some (toString i : Str) else none) = _
  rw [if_pos (log_sm h h2)]
  rfl
theorem numS_str {i : Int} (h : 1 ≤ i) (h2 : i ≤ 10000000000000) : bStr2 μ [.int i] = some (.str (numS i)) := by
  show (if i.natAbs.log2 < 1920 then some (D.str (numS i)) else none) = _
  rw [if_pos (log_sm h h2)]
/-- what repr tells of a change of lines -/
def chS (c : Str) (a m : Int) : Str := c ++ "(" ++ numS a ++ ", " ++ numS m ++ ")"
def Ok31 (a : Int) : Prop := 1 ≤ a ∧ a ≤ 10000000000000
end
local macro_rules | `(tactic| trivial) => `(tactic| simp (config := { dsimp := false }) only [*, eq_self, DL.w_ok, DL.w_ex, DL.w_bind, DL.w_bindS, DL.o_some, DL.w_dC, DL.w_var, DL.w_op, DL.a_nil, DL.a_cons, DL.w_tup, DL.w_lst, DL.w_blt, DL.w_call, DL.w_callN, DL.w_or, DL.w_and, DL.w_not, DL.w_neg, DL.w_if, DL.w_chain, DL.t_tru, DL.t_tst, DL.t_and, DL.t_or, DL.t_not, DL.p_no, DL.p_some, DL.w_slc, DL.w_m1, DL.w_m0, DL.w_fld, DL.s_nil, DL.s_brk, DL.s_cnt, DL.s_retN, DL.s_raise, DL.s_seq, DL.s_ret, DL.s_exp, DL.s_if, DL.s_set, DL.s_new, DL.s_cel, DL.s_retC, DL.s_par, DL.s_asg, DL.e_add, DL.e_sub, DL.e_mulR, DL.e_mulL, DL.e_modS, DL.e_divS, DL.e_pow, DL.e_lt, DL.e_le, DL.e_gt, DL.e_ge, DL.e_is, DL.e_isN, DL.e_eqI, DL.e_neI, DL.e_eqS, DL.e_neS, DL.h_bl, DL.h_int, DL.h_non, DL.b_bl, DL.i_int, DL.s_str, DL.l_lst, DL.q_lst, DL.q_tup, DL.c_lst, DL.c_seq, DL.c_lis, DL.x_cel, DL.x_lst, DL.x_tup, DL.at_nn, DL.ix_in, DL.p_cel, DL.e_mulIf, DL.e_mulM, DL.t_len, DL.t_intB, DL.start, DL.s_setIx, DL.s_for, DL.i_rng, DL.i_rng2, DL.w_lc, DL.r_one, DL.s_app, DL.g_cel, DL.w_dct0, DL.w_meth, DL.isC_obj, DL.w_make, DL.w_pick, DL.pick_cons, DL.pick_nil, DL.w_own, DL.w_ne, DL.w_obS, DL.cls_obj, DL.fld_obj, DL.w_fmt, DL.w_fs, DL.w_fsNil, DL.w_fsCons, DL.w_isT, DL.w_revA, DL.s_try, DL.s_raiseI, DL.s_tryP, DL.s_endX, DL.w_isXT, DL.i_any, DL.ia_tup, DL.ia_str, DL.ia_lst, DL.ia_scr, DL.ia_cel, DL.gl_glo, DL.w_callA, DL.s_tryN, DL.s_never, DL.s_fld, DL.w_listN, DL.g_seq, DL.g_cons, DL.g_nil, DL.g_nm, DL.t_yes, DL.wipe_cons, DL.wipe_nil, DL.nn_non, DL.nn_int, DL.nn_str, DL.nn_bl, DL.nn_tup, DL.nn_lst, DL.w_fmR, DL.w_owns, DL.w_nes, DL.w_obSs, DL.w_meths, List.map_cons, List.map_nil, List.length_cons, List.length_nil, List.cons_append, List.nil_append, List.append_nil, List.drop_zero, List.drop_nil, List.drop_succ_cons, List.getElem?_cons_zero, List.getElem?_cons_succ, List.set_cons_zero, List.set_cons_succ, List.replicate_succ, List.replicate_zero, Option.join_some, Option.map_some, if_true, if_false, Bool.not_true, Bool.not_false, true_and, and_true, Nat.reduceAdd, Nat.reduceSub, Nat.reduceLeDiff, decide_true, decide_false, Bool.false_eq_true, Option.bind_some, Int.reduceToNat, List.getElem?_set_self, Int.reduceLT, Int.reduceLE, Int.reduceNeg, Int.reduceSub, Int.reduceAdd, Int.reduceMul, Int.reducePow, Nat.reduceLT, Int.reduceEq, ite_self, c_ch, f_at, f_many, PG.dfl_Change_checked, PG.dfl_PutColumns_eq__, PG.dfl_PutColumns_init__, PG.dfl_PutColumns_repr__, PG.dfl_PutColumns_undoing, PG.dfl_PutRows_eq__, PG.dfl_PutRows_init__, PG.dfl_PutRows_repr__, PG.dfl_PutRows_undoing, PG.dfl_TakeColumns_eq__, PG.dfl_TakeColumns_init__, PG.dfl_TakeColumns_repr__, PG.dfl_TakeColumns_undoing, PG.dfl_TakeRows_eq__, PG.dfl_TakeRows_init__, PG.dfl_TakeRows_repr__, PG.dfl_TakeRows_undoing, PG.dfl_is_count, PG.dfl_is_whole, PG.dfl_law_alone, PG.dfl_law_lines])
section
variable {μ : List M} {d e s : D} {a m b n : Int} {l : List D} {c : Str}
theorem eq2 : opEq μ (.tup [.int a, .int m]) (.tup [.int b, .int n]) = some (.bl (decide (a = b ∧ m = n))) := by
  show some (D.bl ((a == b) && ((m == n) && true))) = _
  by_cases q1 : a = b <;> by_cases q2 : m = n <;> simp [q1, q2]
theorem rt_PutRows : Str.empty ++ ("PutRows(" : Str) = ("PutRows" : Str) ++ "(" := by with_unfolding_all rfl
theorem repr_PutRows (hc : Cln μ) (h1 : Ok31 a) (h2 : Ok31 m) : G_PutRows_repr__ [chD "PutRows" a m] μ = .ok (.str (chS "PutRows" a m)) μ := by
  apply eq_ok
  unfold G_PutRows_repr__
  refine wo_fn rfl ?_
  unfold D_PutRows_repr__
  have f1 := numS_fmt h1.1 h1.2
  have f2 := numS_fmt h2.1 h2.2
  have l1 := numS_len h1.1 h1.2
  have l2 := numS_len h2.1 h2.2
  have L := str_len_app
  have k1 : ("PutRows(" : Str).length = 8 := rfl
  have k2 : (", " : Str).length = 2 := rfl
  have k3 : (")" : Str).length = 1 := rfl
  have k4 : Str.empty.length = 0 := rfl
  have rt : Str.empty ++ "PutRows(" ++ numS a ++ ", " ++ numS m ++ ")" = chS "PutRows" a m := by unfold chS; rw [rt_PutRows]
  clear h1 h2
  simp (config := { dsimp := false }) only [f1, f2, DL.start, s_ret, w_fs, w_fsCons, w_fsNil, w_dC, w_fmt, w_fld, w_var, o_some, s_str, c_ch, f_at, f_many, List.map_cons, List.map_nil, List.length_cons, List.length_nil, Nat.reduceAdd, Nat.reduceSub, List.replicate_zero, List.append_nil, List.getElem?_cons_zero, Option.join_some, Option.bind_some, L, k1, k2, k3, k4]
  refine ⟨by omega, by omega, by omega, by omega, by omega, ?_⟩
  rw [rt]
  refine fr_same hc rfl ?_
  exact ⟨rfl, rfl⟩
theorem eqN_PutRows (hc : Cln μ) (h : bIsU (.inr "PutRows") μ [d, .glo "PutRows"] = some (.bl false)) : G_PutRows_eq__ [chD "PutRows" a m, d] μ = .ok (.bl false) μ := by
  apply eq_ok
  unfold G_PutRows_eq__
  refine wo_fn rfl ?_
  unfold D_PutRows_eq__
  trivial
  exact fr_same hc rfl ⟨rfl, rfl⟩
theorem eq_PutRows (hc : Cln μ) : G_PutRows_eq__ [chD "PutRows" a m, chD "PutRows" b n] μ = .ok (.bl (decide (a = b ∧ m = n))) μ := by
  apply eq_ok
  unfold G_PutRows_eq__
  refine wo_fn rfl ?_
  unfold D_PutRows_eq__
  have t1 := isT_PutRows (μ := μ) (a := b) (m := n) (c := "PutRows")
  rw [sub_PutRows_PutRows] at t1
  have t2 := eq2 (μ := μ) (a := a) (m := m) (b := b) (n := n)
  trivial
  exact fr_same hc rfl ⟨rfl, rfl⟩
theorem eqO_PutRows_TakeRows (hc : Cln μ) : G_PutRows_eq__ [chD "PutRows" a m, chD "TakeRows" b n] μ = .ok (.bl false) μ := eqN_PutRows hc (by rw [isT_PutRows, sub_TakeRows_PutRows])
theorem eqO_PutRows_PutColumns (hc : Cln μ) : G_PutRows_eq__ [chD "PutRows" a m, chD "PutColumns" b n] μ = .ok (.bl false) μ := eqN_PutRows hc (by rw [isT_PutRows, sub_PutColumns_PutRows])
theorem eqO_PutRows_TakeColumns (hc : Cln μ) : G_PutRows_eq__ [chD "PutRows" a m, chD "TakeColumns" b n] μ = .ok (.bl false) μ := eqN_PutRows hc (by rw [isT_PutRows, sub_TakeColumns_PutRows])
theorem undo_PutRows (hc : Cln μ) (h1 : 1 ≤ a) (h2 : 1 ≤ m) : G_PutRows_undoing [chD "PutRows" a m] μ = .ok (chD "TakeRows" a m) μ := by
  apply eq_ok
  unfold G_PutRows_undoing
  refine wo_fn rfl ?_
  unfold D_PutRows_undoing
  have i0 := init_TakeRows (d := .int a) (e := .int m) hc rfl rfl
  rw [if_pos (by show (decide (1 ≤ a) && decide (1 ≤ m)) = true; rw [decide_eq_true h1, decide_eq_true h2]; rfl)] at i0
  clear h1 h2
  trivial
  exact fr_same hc rfl ⟨rfl, rfl⟩
theorem rt_TakeRows : Str.empty ++ ("TakeRows(" : Str) = ("TakeRows" : Str) ++ "(" := by with_unfolding_all rfl
theorem repr_TakeRows (hc : Cln μ) (h1 : Ok31 a) (h2 : Ok31 m) : G_TakeRows_repr__ [chD "TakeRows" a m] μ = .ok (.str (chS "TakeRows" a m)) μ := by
  apply eq_ok
  unfold G_TakeRows_repr__
  refine wo_fn rfl ?_
  unfold D_TakeRows_repr__
  have f1 := numS_fmt h1.1 h1.2
  have f2 := numS_fmt h2.1 h2.2
  have l1 := numS_len h1.1 h1.2
  have l2 := numS_len h2.1 h2.2
  have L := str_len_app
  have k1 : ("TakeRows(" : Str).length = 9 := rfl
  have k2 : (", " : Str).length = 2 := rfl
  have k3 : (")" : Str).length = 1 := rfl
  have k4 : Str.empty.length = 0 := rfl
  have rt : Str.empty ++ "TakeRows(" ++ numS a ++ ", " ++ numS m ++ ")" = chS "TakeRows" a m := by unfold chS; rw [rt_TakeRows]
  clear h1 h2
  simp (config := { dsimp := false }) only [f1, f2, DL.start, s_ret, w_fs, w_fsCons, w_fsNil, w_dC, w_fmt, w_fld, w_var, o_some, s_str, c_ch, f_at, f_many, List.map_cons, List.map_nil, List.length_cons, List.length_nil, Nat.reduceAdd, Nat.reduceSub, List.replicate_zero, List.append_nil, List.getElem?_cons_zero, Option.join_some, Option.bind_some, L, k1, k2, k3, k4]
  refine ⟨by omega, by omega, by omega, by omega, by omega, ?_⟩
  rw [rt]
  refine fr_same hc rfl ?_
  exact ⟨rfl, rfl⟩
theorem eqN_TakeRows (hc : Cln μ) (h : bIsU (.inr "TakeRows") μ [d, .glo "TakeRows"] = some (.bl false)) : G_TakeRows_eq__ [chD "TakeRows" a m, d] μ = .ok (.bl false) μ := by
  apply eq_ok
  unfold G_TakeRows_eq__
  refine wo_fn rfl ?_
  unfold D_TakeRows_eq__
  trivial
  exact fr_same hc rfl ⟨rfl, rfl⟩
theorem eq_TakeRows (hc : Cln μ) : G_TakeRows_eq__ [chD "TakeRows" a m, chD "TakeRows" b n] μ = .ok (.bl (decide (a = b ∧ m = n))) μ := by
  apply eq_ok
  unfold G_TakeRows_eq__
  refine wo_fn rfl ?_
  unfold D_TakeRows_eq__
  have t1 := isT_TakeRows (μ := μ) (a := b) (m := n) (c := "TakeRows")
  rw [sub_TakeRows_TakeRows] at t1
  have t2 := eq2 (μ := μ) (a := a) (m := m) (b := b) (n := n)
  trivial
  exact fr_same hc rfl ⟨rfl, rfl⟩
theorem eqO_TakeRows_PutRows (hc : Cln μ) : G_TakeRows_eq__ [chD "TakeRows" a m, chD "PutRows" b n] μ = .ok (.bl false) μ := eqN_TakeRows hc (by rw [isT_TakeRows, sub_PutRows_TakeRows])
theorem eqO_TakeRows_PutColumns (hc : Cln μ) : G_TakeRows_eq__ [chD "TakeRows" a m, chD "PutColumns" b n] μ = .ok (.bl false) μ := eqN_TakeRows hc (by rw [isT_TakeRows, sub_PutColumns_TakeRows])
theorem eqO_TakeRows_TakeColumns (hc : Cln μ) : G_TakeRows_eq__ [chD "TakeRows" a m, chD "TakeColumns" b n] μ = .ok (.bl false) μ := eqN_TakeRows hc (by rw [isT_TakeRows, sub_TakeColumns_TakeRows])
theorem undo_TakeRows (hc : Cln μ) (h1 : 1 ≤ a) (h2 : 1 ≤ m) : G_TakeRows_undoing [chD "TakeRows" a m] μ = .ok (chD "PutRows" a m) μ := by
  apply eq_ok
  unfold G_TakeRows_undoing
  refine wo_fn rfl ?_
  unfold D_TakeRows_undoing
  have i0 := init_PutRows (d := .int a) (e := .int m) hc rfl rfl
  rw [if_pos (by show (decide (1 ≤ a) && decide (1 ≤ m)) = true; rw [decide_eq_true h1, decide_eq_true h2]; rfl)] at i0
  clear h1 h2
  trivial
  exact fr_same hc rfl ⟨rfl, rfl⟩
theorem rt_PutColumns : Str.empty ++ ("PutColumns(" : Str) = ("PutColumns" : Str) ++ "(" := by with_unfolding_all rfl
theorem repr_PutColumns (hc : Cln μ) (h1 : Ok31 a) (h2 : Ok31 m) : G_PutColumns_repr__ [chD "PutColumns" a m] μ = .ok (.str (chS "PutColumns" a m)) μ := by
  apply eq_ok
  unfold G_PutColumns_repr__
  refine wo_fn rfl ?_
  unfold D_PutColumns_repr__
  have f1 := numS_fmt h1.1 h1.2
  have f2 := numS_fmt h2.1 h2.2
  have l1 := numS_len h1.1 h1.2
  have l2 := numS_len h2.1 h2.2
  have L := str_len_app
  have k1 : ("PutColumns(" : Str).length = 11 := rfl
  have k2 : (", " : Str).length = 2 := rfl
  have k3 : (")" : Str).length = 1 := rfl
  have k4 : Str.empty.length = 0 := rfl
  have rt : Str.empty ++ "PutColumns(" ++ numS a ++ ", " ++ numS m ++ ")" = chS "PutColumns" a m := by unfold chS; rw [rt_PutColumns]
  clear h1 h2
  simp (config := { dsimp := false }) only [f1, f2, DL.start, s_ret, w_fs, w_fsCons, w_fsNil, w_dC, w_fmt, w_fld, w_var, o_some, s_str, c_ch, f_at, f_many, List.map_cons, List.map_nil, List.length_cons, List.length_nil, Nat.reduceAdd, Nat.reduceSub, List.replicate_zero, List.append_nil, List.getElem?_cons_zero, Option.join_some, Option.bind_some, L, k1, k2, k3, k4]
  refine ⟨by omega, by omega, by omega, by omega, by omega, ?_⟩
  rw [rt]
  refine fr_same hc rfl ?_
  exact ⟨rfl, rfl⟩
theorem eqN_PutColumns (hc : Cln μ) (h : bIsU (.inr "PutColumns") μ [d, .glo "PutColumns"] = some (.bl false)) : G_PutColumns_eq__ [chD "PutColumns" a m, d] μ = .ok (.bl false) μ := by
  apply eq_ok
  unfold G_PutColumns_eq__
  refine wo_fn rfl ?_
  unfold D_PutColumns_eq__
  trivial
  exact fr_same hc rfl ⟨rfl, rfl⟩
theorem eq_PutColumns (hc : Cln μ) : G_PutColumns_eq__ [chD "PutColumns" a m, chD "PutColumns" b n] μ = .ok (.bl (decide (a = b ∧ m = n))) μ := by
  apply eq_ok
  unfold G_PutColumns_eq__
  refine wo_fn rfl ?_
  unfold D_PutColumns_eq__
  have t1 := isT_PutColumns (μ := μ) (a := b) (m := n) (c := "PutColumns")
  rw [sub_PutColumns_PutColumns] at t1
  have t2 := eq2 (μ := μ) (a := a) (m := m) (b := b) (n := n)
  trivial
  exact fr_same hc rfl ⟨rfl, rfl⟩
theorem eqO_PutColumns_PutRows (hc : Cln μ) : G_PutColumns_eq__ [chD "PutColumns" a m, chD "PutRows" b n] μ = .ok (.bl false) μ := eqN_PutColumns hc (by rw [isT_PutColumns, sub_PutRows_PutColumns])
theorem eqO_PutColumns_TakeRows (hc : Cln μ) : G_PutColumns_eq__ [chD "PutColumns" a m, chD "TakeRows" b n] μ = .ok (.bl false) μ := eqN_PutColumns hc (by rw [isT_PutColumns, sub_TakeRows_PutColumns])
theorem eqO_PutColumns_TakeColumns (hc : Cln μ) : G_PutColumns_eq__ [chD "PutColumns" a m, chD "TakeColumns" b n] μ = .ok (.bl false) μ := eqN_PutColumns hc (by rw [isT_PutColumns, sub_TakeColumns_PutColumns])
theorem undo_PutColumns (hc : Cln μ) (h1 : 1 ≤ a) (h2 : 1 ≤ m) : G_PutColumns_undoing [chD "PutColumns" a m] μ = .ok (chD "TakeColumns" a m) μ := by
  apply eq_ok
  unfold G_PutColumns_undoing
  refine wo_fn rfl ?_
  unfold D_PutColumns_undoing
  have i0 := init_TakeColumns (d := .int a) (e := .int m) hc rfl rfl
  rw [if_pos (by show (decide (1 ≤ a) && decide (1 ≤ m)) = true; rw [decide_eq_true h1, decide_eq_true h2]; rfl)] at i0
  clear h1 h2
  trivial
  exact fr_same hc rfl ⟨rfl, rfl⟩
theorem rt_TakeColumns : Str.empty ++ ("TakeColumns(" : Str) = ("TakeColumns" : Str) ++ "(" := by with_unfolding_all rfl
theorem repr_TakeColumns (hc : Cln μ) (h1 : Ok31 a) (h2 : Ok31 m) : G_TakeColumns_repr__ [chD "TakeColumns" a m] μ = .ok (.str (chS "TakeColumns" a m)) μ := by
  apply eq_ok
  unfold G_TakeColumns_repr__
  refine wo_fn rfl ?_
  unfold D_TakeColumns_repr__
  have f1 := numS_fmt h1.1 h1.2
  have f2 := numS_fmt h2.1 h2.2
  have l1 := numS_len h1.1 h1.2
  have l2 := numS_len h2.1 h2.2
  have L := str_len_app
  have k1 : ("TakeColumns(" : Str).length = 12 := rfl
  have k2 : (", " : Str).length = 2 := rfl
  have k3 : (")" : Str).length = 1 := rfl
  have k4 : Str.empty.length = 0 := rfl
  have rt : Str.empty ++ "TakeColumns(" ++ numS a ++ ", " ++ numS m ++ ")" = chS "TakeColumns" a m := by unfold chS; rw [rt_TakeColumns]
  clear h1 h2
  simp (config := { dsimp := false }) only [f1, f2, DL.start, s_ret, w_fs, w_fsCons, w_fsNil, w_dC, w_fmt, w_fld, w_var, o_some, s_str, c_ch, f_at, f_many, List.map_cons, List.map_nil, List.length_cons, List.length_nil, Nat.reduceAdd, Nat.reduceSub, List.replicate_zero, List.append_nil, List.getElem?_cons_zero, Option.join_some, Option.bind_some, L, k1, k2, k3, k4]
  refine ⟨by omega, by omega, by omega, by omega, by omega, ?_⟩
  rw [rt]
  refine fr_same hc rfl ?_
  exact ⟨rfl, rfl⟩
theorem eqN_TakeColumns (hc : Cln μ) (h : bIsU (.inr "TakeColumns") μ [d, .glo "TakeColumns"] = some (.bl false)) : G_TakeColumns_eq__ [chD "TakeColumns" a m, d] μ = .ok (.bl false) μ := by
  apply eq_ok
  unfold G_TakeColumns_eq__
  refine wo_fn rfl ?_
  unfold D_TakeColumns_eq__
  trivial
  exact fr_same hc rfl ⟨rfl, rfl⟩
theorem eq_TakeColumns (hc : Cln μ) : G_TakeColumns_eq__ [chD "TakeColumns" a m, chD "TakeColumns" b n] μ = .ok (.bl (decide (a = b ∧ m = n))) μ := by
  apply eq_ok
  unfold G_TakeColumns_eq__
  refine wo_fn rfl ?_
  unfold D_TakeColumns_eq__
  have t1 := isT_TakeColumns (μ := μ) (a := b) (m := n) (c := "TakeColumns")
  rw [sub_TakeColumns_TakeColumns] at t1
  have t2 := eq2 (μ := μ) (a := a) (m := m) (b := b) (n := n)
  trivial
  exact fr_same hc rfl ⟨rfl, rfl⟩
theorem eqO_TakeColumns_PutRows (hc : Cln μ) : G_TakeColumns_eq__ [chD "TakeColumns" a m, chD "PutRows" b n] μ = .ok (.bl false) μ := eqN_TakeColumns hc (by rw [isT_TakeColumns, sub_PutRows_TakeColumns])
theorem eqO_TakeColumns_TakeRows (hc : Cln μ) : G_TakeColumns_eq__ [chD "TakeColumns" a m, chD "TakeRows" b n] μ = .ok (.bl false) μ := eqN_TakeColumns hc (by rw [isT_TakeColumns, sub_TakeRows_TakeColumns])
theorem eqO_TakeColumns_PutColumns (hc : Cln μ) : G_TakeColumns_eq__ [chD "TakeColumns" a m, chD "PutColumns" b n] μ = .ok (.bl false) μ := eqN_TakeColumns hc (by rw [isT_TakeColumns, sub_PutColumns_TakeColumns])
theorem undo_TakeColumns (hc : Cln μ) (h1 : 1 ≤ a) (h2 : 1 ≤ m) : G_TakeColumns_undoing [chD "TakeColumns" a m] μ = .ok (chD "PutColumns" a m) μ := by
  apply eq_ok
  unfold G_TakeColumns_undoing
  refine wo_fn rfl ?_
  unfold D_TakeColumns_undoing
  have i0 := init_PutColumns (d := .int a) (e := .int m) hc rfl rfl
  rw [if_pos (by show (decide (1 ≤ a) && decide (1 ≤ m)) = true; rw [decide_eq_true h1, decide_eq_true h2]; rfl)] at i0
  clear h1 h2
  trivial
  exact fr_same hc rfl ⟨rfl, rfl⟩
end
end PG
namespace PG
open PySem PySem.Spec PyProof.Rows L2 DL
local macro_rules | `(tactic| trivial) => `(tactic| simp (config := { dsimp := false }) only [*, eq_self, DL.w_ok, DL.w_ex, DL.w_bind, DL.w_bindS, DL.o_some, DL.w_dC, DL.w_var, DL.w_op, DL.a_nil, DL.a_cons, DL.w_tup, DL.w_lst, DL.w_blt, DL.w_call, DL.w_callN, DL.w_or, DL.w_and, DL.w_not, DL.w_neg, DL.w_if, DL.w_chain, DL.t_tru, DL.t_tst, DL.t_and, DL.t_or, DL.t_not, DL.p_no, DL.p_some, DL.w_slc, DL.w_m1, DL.w_m0, DL.w_fld, DL.s_nil, DL.s_brk, DL.s_cnt, DL.s_retN, DL.s_raise, DL.s_seq, DL.s_ret, DL.s_exp, DL.s_if, DL.s_set, DL.s_new, DL.s_cel, DL.s_retC, DL.s_par, DL.s_asg, DL.e_add, DL.e_sub, DL.e_mulR, DL.e_mulL, DL.e_modS, DL.e_divS, DL.e_pow, DL.e_lt, DL.e_le, DL.e_gt, DL.e_ge, DL.e_is, DL.e_isN, DL.e_eqI, DL.e_neI, DL.e_eqS, DL.e_neS, DL.h_bl, DL.h_int, DL.h_non, DL.b_bl, DL.i_int, DL.s_str, DL.l_lst, DL.q_lst, DL.q_tup, DL.c_lst, DL.c_seq, DL.c_lis, DL.x_cel, DL.x_lst, DL.x_tup, DL.at_nn, DL.ix_in, DL.p_cel, DL.e_mulIf, DL.e_mulM, DL.t_len, DL.t_intB, DL.start, DL.s_setIx, DL.s_for, DL.i_rng, DL.i_rng2, DL.w_lc, DL.r_one, DL.s_app, DL.g_cel, DL.w_dct0, DL.w_meth, DL.isC_obj, DL.w_make, DL.w_pick, DL.pick_cons, DL.pick_nil, DL.w_own, DL.w_ne, DL.w_obS, DL.cls_obj, DL.fld_obj, DL.w_fmt, DL.w_fs, DL.w_fsNil, DL.w_fsCons, DL.w_isT, DL.w_revA, DL.s_try, DL.s_raiseI, DL.s_tryP, DL.s_endX, DL.w_isXT, DL.i_any, DL.ia_tup, DL.ia_str, DL.ia_lst, DL.ia_scr, DL.ia_cel, DL.gl_glo, DL.w_callA, DL.s_tryN, DL.s_never, DL.s_fld, DL.w_listN, DL.g_seq, DL.g_cons, DL.g_nil, DL.g_nm, DL.t_yes, DL.wipe_cons, DL.wipe_nil, DL.nn_non, DL.nn_int, DL.nn_str, DL.nn_bl, DL.nn_tup, DL.nn_lst, DL.w_fmR, DL.w_owns, DL.w_nes, DL.w_obSs, DL.w_meths, List.map_cons, List.map_nil, List.length_cons, List.length_nil, List.cons_append, List.nil_append, List.append_nil, List.drop_zero, List.drop_nil, List.drop_succ_cons, List.getElem?_cons_zero, List.getElem?_cons_succ, List.set_cons_zero, List.set_cons_succ, List.replicate_succ, List.replicate_zero, Option.join_some, Option.map_some, if_true, if_false, Bool.not_true, Bool.not_false, true_and, and_true, Nat.reduceAdd, Nat.reduceSub, Nat.reduceLeDiff, decide_true, decide_false, Bool.false_eq_true, Option.bind_some, Int.reduceToNat, List.getElem?_set_self, Int.reduceLT, Int.reduceLE, Int.reduceNeg, Int.reduceSub, Int.reduceAdd, Int.reduceMul, Int.reducePow, Nat.reduceLT, Int.reduceEq, ite_self, PG.dfl_PutColumns_eq__, PG.dfl_PutColumns_init__, PG.dfl_PutColumns_repr__, PG.dfl_PutColumns_undoing, PG.dfl_PutRows_eq__, PG.dfl_PutRows_init__, PG.dfl_PutRows_repr__, PG.dfl_PutRows_undoing, PG.dfl_TakeColumns_eq__, PG.dfl_TakeColumns_init__, PG.dfl_TakeColumns_repr__, PG.dfl_TakeColumns_undoing, PG.dfl_TakeRows_eq__, PG.dfl_TakeRows_init__, PG.dfl_TakeRows_repr__, PG.dfl_TakeRows_undoing, PG.dfl_law_alone, PG.dfl_law_kinds, PG.dfl_law_lines, PG.dfl_law_lines_right])
section
variable {μ : List M} {d e s : D} {a m b n : Int} {l : List D} {c : Str}
theorem kinds_PutRows (hc : Cln μ) : G_law_kinds [chD "PutRows" a m] μ = .ok (.lst [.bl true, .bl false, .bl false, .bl false, .bl false, .bl true]) μ := by
  apply eq_ok
  unfold G_law_kinds
  refine wo_fn rfl ?_
  unfold D_law_kinds
  have t0 := isT_PutRows (μ := μ) (a := a) (m := m) (c := "PutRows")
  rw [sub_PutRows_PutRows] at t0
  have t1 := isT_TakeRows (μ := μ) (a := a) (m := m) (c := "PutRows")
  rw [sub_PutRows_TakeRows] at t1
  have t2 := isT_PutColumns (μ := μ) (a := a) (m := m) (c := "PutRows")
  rw [sub_PutRows_PutColumns] at t2
  have t3 := isT_TakeColumns (μ := μ) (a := a) (m := m) (c := "PutRows")
  rw [sub_PutRows_TakeColumns] at t3
  have t4 := isT_Move (μ := μ) (a := a) (m := m) (c := "PutRows")
  rw [sub_PutRows_Move] at t4
  have t5 := isT_Change (μ := μ) (a := a) (m := m) (c := "PutRows")
  rw [sub_PutRows_Change] at t5
  have p : opAdd μ (.lst [.bl true, .bl false, .bl false]) (.lst [.bl false, .bl false, .bl true]) = some (.lst [.bl true, .bl false, .bl false, .bl false, .bl false, .bl true]) := by with_unfolding_all rfl
  trivial
  exact fr_same hc rfl ⟨rfl, rfl⟩
theorem kinds_TakeRows (hc : Cln μ) : G_law_kinds [chD "TakeRows" a m] μ = .ok (.lst [.bl false, .bl true, .bl false, .bl false, .bl false, .bl true]) μ := by
  apply eq_ok
  unfold G_law_kinds
  refine wo_fn rfl ?_
  unfold D_law_kinds
  have t0 := isT_PutRows (μ := μ) (a := a) (m := m) (c := "TakeRows")
  rw [sub_TakeRows_PutRows] at t0
  have t1 := isT_TakeRows (μ := μ) (a := a) (m := m) (c := "TakeRows")
  rw [sub_TakeRows_TakeRows] at t1
  have t2 := isT_PutColumns (μ := μ) (a := a) (m := m) (c := "TakeRows")
  rw [sub_TakeRows_PutColumns] at t2
  have t3 := isT_TakeColumns (μ := μ) (a := a) (m := m) (c := "TakeRows")
  rw [sub_TakeRows_TakeColumns] at t3
  have t4 := isT_Move (μ := μ) (a := a) (m := m) (c := "TakeRows")
  rw [sub_TakeRows_Move] at t4
  have t5 := isT_Change (μ := μ) (a := a) (m := m) (c := "TakeRows")
  rw [sub_TakeRows_Change] at t5
  have p : opAdd μ (.lst [.bl false, .bl true, .bl false]) (.lst [.bl false, .bl false, .bl true]) = some (.lst [.bl false, .bl true, .bl false, .bl false, .bl false, .bl true]) := by with_unfolding_all rfl
  trivial
  exact fr_same hc rfl ⟨rfl, rfl⟩
theorem kinds_PutColumns (hc : Cln μ) : G_law_kinds [chD "PutColumns" a m] μ = .ok (.lst [.bl false, .bl false, .bl true, .bl false, .bl false, .bl true]) μ := by
  apply eq_ok
  unfold G_law_kinds
  refine wo_fn rfl ?_
  unfold D_law_kinds
  have t0 := isT_PutRows (μ := μ) (a := a) (m := m) (c := "PutColumns")
  rw [sub_PutColumns_PutRows] at t0
  have t1 := isT_TakeRows (μ := μ) (a := a) (m := m) (c := "PutColumns")
  rw [sub_PutColumns_TakeRows] at t1
  have t2 := isT_PutColumns (μ := μ) (a := a) (m := m) (c := "PutColumns")
  rw [sub_PutColumns_PutColumns] at t2
  have t3 := isT_TakeColumns (μ := μ) (a := a) (m := m) (c := "PutColumns")
  rw [sub_PutColumns_TakeColumns] at t3
  have t4 := isT_Move (μ := μ) (a := a) (m := m) (c := "PutColumns")
  rw [sub_PutColumns_Move] at t4
  have t5 := isT_Change (μ := μ) (a := a) (m := m) (c := "PutColumns")
  rw [sub_PutColumns_Change] at t5
  have p : opAdd μ (.lst [.bl false, .bl false, .bl true]) (.lst [.bl false, .bl false, .bl true]) = some (.lst [.bl false, .bl false, .bl true, .bl false, .bl false, .bl true]) := by with_unfolding_all rfl
  trivial
  exact fr_same hc rfl ⟨rfl, rfl⟩
theorem kinds_TakeColumns (hc : Cln μ) : G_law_kinds [chD "TakeColumns" a m] μ = .ok (.lst [.bl false, .bl false, .bl false, .bl true, .bl false, .bl true]) μ := by
  apply eq_ok
  unfold G_law_kinds
  refine wo_fn rfl ?_
  unfold D_law_kinds
  have t0 := isT_PutRows (μ := μ) (a := a) (m := m) (c := "TakeColumns")
  rw [sub_TakeColumns_PutRows] at t0
  have t1 := isT_TakeRows (μ := μ) (a := a) (m := m) (c := "TakeColumns")
  rw [sub_TakeColumns_TakeRows] at t1
  have t2 := isT_PutColumns (μ := μ) (a := a) (m := m) (c := "TakeColumns")
  rw [sub_TakeColumns_PutColumns] at t2
  have t3 := isT_TakeColumns (μ := μ) (a := a) (m := m) (c := "TakeColumns")
  rw [sub_TakeColumns_TakeColumns] at t3
  have t4 := isT_Move (μ := μ) (a := a) (m := m) (c := "TakeColumns")
  rw [sub_TakeColumns_Move] at t4
  have t5 := isT_Change (μ := μ) (a := a) (m := m) (c := "TakeColumns")
  rw [sub_TakeColumns_Change] at t5
  have p : opAdd μ (.lst [.bl false, .bl false, .bl false]) (.lst [.bl true, .bl false, .bl true]) = some (.lst [.bl false, .bl false, .bl false, .bl true, .bl false, .bl true]) := by with_unfolding_all rfl
  trivial
  exact fr_same hc rfl ⟨rfl, rfl⟩
theorem ne2 : opNe μ (.tup [.int a, .int m]) (.tup [.int a, .int m]) = some (.bl false) := by
  show some (D.bl (!((a == a) && ((m == m) && true)))) = _
  simp
theorem strS {x : Str} : opNe μ (.str x) (.str x) = some (.bl false) := by
  show some (D.bl (!(x == x))) = _
  rw [beqS, decide_eq_true rfl]; rfl
theorem io6 : iota 0 6 = [.int 0, .int 1, .int 2, .int 3, .int 4, .int 5] := rfl
theorem io4 : iota 0 4 = [.int 0, .int 1, .int 2, .int 3] := rfl
end
local macro_rules | `(tactic| trivial) => `(tactic| simp (config := { dsimp := false }) only [*, eq_self, DL.w_ok, DL.w_ex, DL.w_bind, DL.w_bindS, DL.o_some, DL.w_dC, DL.w_var, DL.w_op, DL.a_nil, DL.a_cons, DL.w_tup, DL.w_lst, DL.w_blt, DL.w_call, DL.w_callN, DL.w_or, DL.w_and, DL.w_not, DL.w_neg, DL.w_if, DL.w_chain, DL.t_tru, DL.t_tst, DL.t_and, DL.t_or, DL.t_not, DL.p_no, DL.p_some, DL.w_slc, DL.w_m1, DL.w_m0, DL.w_fld, DL.s_nil, DL.s_brk, DL.s_cnt, DL.s_retN, DL.s_raise, DL.s_seq, DL.s_ret, DL.s_exp, DL.s_if, DL.s_set, DL.s_new, DL.s_cel, DL.s_retC, DL.s_par, DL.s_asg, DL.e_add, DL.e_sub, DL.e_mulR, DL.e_mulL, DL.e_modS, DL.e_divS, DL.e_pow, DL.e_lt, DL.e_le, DL.e_gt, DL.e_ge, DL.e_is, DL.e_isN, DL.e_eqI, DL.e_neI, DL.e_eqS, DL.e_neS, DL.h_bl, DL.h_int, DL.h_non, DL.b_bl, DL.i_int, DL.s_str, DL.l_lst, DL.q_lst, DL.q_tup, DL.c_lst, DL.c_seq, DL.c_lis, DL.x_cel, DL.x_lst, DL.x_tup, DL.at_nn, DL.ix_in, DL.p_cel, DL.e_mulIf, DL.e_mulM, DL.t_len, DL.t_intB, DL.start, DL.s_setIx, DL.s_for, DL.i_rng, DL.i_rng2, DL.w_lc, DL.r_one, DL.s_app, DL.g_cel, DL.w_dct0, DL.w_meth, DL.isC_obj, DL.w_make, DL.w_pick, DL.pick_cons, DL.pick_nil, DL.w_own, DL.w_ne, DL.w_obS, DL.cls_obj, DL.fld_obj, DL.w_fmt, DL.w_fs, DL.w_fsNil, DL.w_fsCons, DL.w_isT, DL.w_revA, DL.s_try, DL.s_raiseI, DL.s_tryP, DL.s_endX, DL.w_isXT, DL.i_any, DL.ia_tup, DL.ia_str, DL.ia_lst, DL.ia_scr, DL.ia_cel, DL.gl_glo, DL.w_callA, DL.s_tryN, DL.s_never, DL.s_fld, DL.w_listN, DL.g_seq, DL.g_cons, DL.g_nil, DL.g_nm, DL.t_yes, DL.wipe_cons, DL.wipe_nil, DL.nn_non, DL.nn_int, DL.nn_str, DL.nn_bl, DL.nn_tup, DL.nn_lst, DL.w_fmR, DL.w_owns, DL.w_nes, DL.w_obSs, DL.w_meths, List.map_cons, List.map_nil, List.length_cons, List.length_nil, List.cons_append, List.nil_append, List.append_nil, List.drop_zero, List.drop_nil, List.drop_succ_cons, List.getElem?_cons_zero, List.getElem?_cons_succ, List.set_cons_zero, List.set_cons_succ, List.replicate_succ, List.replicate_zero, Option.join_some, Option.map_some, if_true, if_false, Bool.not_true, Bool.not_false, true_and, and_true, Nat.reduceAdd, Nat.reduceSub, Nat.reduceLeDiff, decide_true, decide_false, Bool.false_eq_true, Option.bind_some, Int.reduceToNat, List.getElem?_set_self, Int.reduceLT, Int.reduceLE, Int.reduceNeg, Int.reduceSub, Int.reduceAdd, Int.reduceMul, Int.reducePow, Nat.reduceLT, Int.reduceEq, ite_self, io6, io4, c_ch, f_at, f_many, f_undo, Option.isNone_none, Option.isSome_some, tag_ch, w_lcCons, w_lcNil, strS, PG.dfl_PutColumns_eq__, PG.dfl_PutColumns_init__, PG.dfl_PutColumns_repr__, PG.dfl_PutColumns_undoing, PG.dfl_PutRows_eq__, PG.dfl_PutRows_init__, PG.dfl_PutRows_repr__, PG.dfl_PutRows_undoing, PG.dfl_TakeColumns_eq__, PG.dfl_TakeColumns_init__, PG.dfl_TakeColumns_repr__, PG.dfl_TakeColumns_undoing, PG.dfl_TakeRows_eq__, PG.dfl_TakeRows_init__, PG.dfl_TakeRows_repr__, PG.dfl_TakeRows_undoing, PG.dfl_law_alone, PG.dfl_law_kinds, PG.dfl_law_lines, PG.dfl_law_lines_right])
section
variable {μ : List M} {d e s : D} {a m b n : Int} {l : List D} {c : Str}
theorem tx_PutRows (h1 : Ok31 a) (h2 : Ok31 m) : opAdd μ (.str "PutRows") (.str "(") = some (.str ("PutRows" ++ "(")) ∧ opAdd μ (.str ("PutRows" ++ "(")) (.str (numS a)) = some (.str ("PutRows" ++ "(" ++ numS a)) ∧ opAdd μ (.str ("PutRows" ++ "(" ++ numS a)) (.str ", ") = some (.str ("PutRows" ++ "(" ++ numS a ++ ", ")) ∧
    opAdd μ (.str ("PutRows" ++ "(" ++ numS a ++ ", ")) (.str (numS m)) = some (.str ("PutRows" ++ "(" ++ numS a ++ ", " ++ numS m)) ∧ opAdd μ (.str ("PutRows" ++ "(" ++ numS a ++ ", " ++ numS m)) (.str ")") = some (.str (chS "PutRows" a m)) := by
  have l1 := numS_len h1.1 h1.2
  have l2 := numS_len h2.1 h2.2
  have L := str_len_app
  have k0 : ("PutRows" : Str).length = 7 := rfl
  have k1 : ("(" : Str).length = 1 := rfl
  have k2 : (", " : Str).length = 2 := rfl
  have k3 : (")" : Str).length = 1 := rfl
  refine ⟨add_s ?_, add_s ?_, add_s ?_, add_s ?_, add_s ?_⟩ <;> simp only [L, k0, k1, k2, k3] <;> omega
theorem lr_PutRows (hc : Cln μ) (h1 : Ok31 a) (h2 : Ok31 m) : G_law_lines_right [.int 0, .int a, .int m] μ = .ok (.bl true) μ := by
  apply eq_ok
  unfold G_law_lines_right
  refine wo_fn rfl ?_
  unfold D_law_lines_right
  have nm : opIx μ (.lst [.str "PutRows", .str "TakeRows", .str "PutColumns", .str "TakeColumns"]) (.int 0) = some (.str "PutRows") := rfl
  have un : opIx μ (.lst [.int 1, .int 0, .int 3, .int 2]) (.int 0) = some (.int 1) := rfl
  have g0 : 1 ≤ a := h1.1
  have g1 : 1 ≤ m := h2.1
  have g2 : 1 ≤ a + 1 := by omega
  have g3 : 1 ≤ m + 1 := by omega
  have g4 : (1 : Int) ≤ 1 := by omega
  have c0 : G_law_lines [.int 0, .int a, .int m] μ = .ok (chD "PutRows" a m) μ := x_linesC hc (by decide) (by decide) g0 g1
  have c1 : G_law_lines [.int 1, .int a, .int m] μ = .ok (chD "TakeRows" a m) μ := x_linesC hc (by decide) (by decide) g0 g1
  have c2 : G_law_lines [.int 2, .int a, .int m] μ = .ok (chD "PutColumns" a m) μ := x_linesC hc (by decide) (by decide) g0 g1
  have c3 : G_law_lines [.int 3, .int a, .int m] μ = .ok (chD "TakeColumns" a m) μ := x_linesC hc (by decide) (by decide) g0 g1
  have c5 : G_law_lines [.int 0, .int (a + 1), .int m] μ = .ok (chD "PutRows" (a + 1) m) μ := x_linesC hc (by decide) (by decide) g2 g1
  have c6 : G_law_lines [.int 0, .int a, .int (m + 1)] μ = .ok (chD "PutRows" a (m + 1)) μ := x_linesC hc (by decide) (by decide) g0 g3
  have c7 : G_law_lines [.int 0, .int a, .int 1] μ = .ok (chD "PutRows" a 1) μ := x_linesC hc (by decide) (by decide) g0 g4
  have c8 : G_law_alone [.int 0, .int a] μ = .ok (chD "PutRows" a 1) μ := x_alone hc (by decide) (by decide) g0
  have s1 := numS_str (μ := μ) h1.1 h1.2
  have s2 := numS_str (μ := μ) h2.1 h2.2
  obtain ⟨p1, p2, p3, p4, p5⟩ := tx_PutRows (μ := μ) h1 h2
  have rp := repr_PutRows hc h1 h2
  have n2 := ne2 (μ := μ) (a := a) (m := m)
  have i0 : opIn false μ (.int 0) (.tup [.int 0, .int 5]) = some (.bl true) := by with_unfolding_all rfl
  have i1 : opIn false μ (.int 1) (.tup [.int 0, .int 5]) = some (.bl false) := by with_unfolding_all rfl
  have i2 : opIn false μ (.int 2) (.tup [.int 0, .int 5]) = some (.bl false) := by with_unfolding_all rfl
  have i3 : opIn false μ (.int 3) (.tup [.int 0, .int 5]) = some (.bl false) := by with_unfolding_all rfl
  have i4 : opIn false μ (.int 4) (.tup [.int 0, .int 5]) = some (.bl false) := by with_unfolding_all rfl
  have i5 : opIn false μ (.int 5) (.tup [.int 0, .int 5]) = some (.bl true) := by with_unfolding_all rfl
  have kd := kinds_PutRows (a := a) (m := m) hc
  have kn : opNe μ (.lst [.bl true, .bl false, .bl false, .bl false, .bl false, .bl true]) (.lst [.bl true, .bl false, .bl false, .bl false, .bl false, .bl true]) = some (.bl false) := by with_unfolding_all rfl
  have ud := undo_PutRows hc g0 g1
  have q0 := eq_TakeRows (a := a) (m := m) (b := a) (n := m) hc
  rw [decide_eq_true (show a = a ∧ m = m from ⟨rfl, rfl⟩)] at q0
  have q1 := eq_PutRows (a := a) (m := m) (b := a) (n := m) hc
  rw [decide_eq_true (show a = a ∧ m = m from ⟨rfl, rfl⟩)] at q1
  have q2 := eq_PutRows (a := a) (m := m) (b := a + 1) (n := m) hc
  rw [decide_eq_false (show ¬ (a = a + 1 ∧ m = m) from fun z => by omega)] at q2
  have q3 := eq_PutRows (a := a) (m := m) (b := a) (n := m + 1) hc
  rw [decide_eq_false (show ¬ (a = a ∧ m = m + 1) from fun z => by omega)] at q3
  have q4 := eq_PutRows (a := a) (m := 1) (b := a) (n := 1) hc
  rw [decide_eq_true (show a = a ∧ (1 : Int) = 1 from ⟨rfl, rfl⟩)] at q4
  have r1 := eqO_PutRows_TakeRows (a := a) (m := m) (b := a) (n := m) hc
  have r2 := eqO_PutRows_PutColumns (a := a) (m := m) (b := a) (n := m) hc
  have r3 := eqO_PutRows_TakeColumns (a := a) (m := m) (b := a) (n := m) hc
  have fi : opIn false μ (.bl true) (.lst [.bl false, .bl false, .bl false]) = some (.bl false) := by with_unfolding_all rfl
  have so0 : ∀ {x0 x1 x2 x3 : GF}, selT [("PutRows", x0), ("TakeRows", x1), ("PutColumns", x2), ("TakeColumns", x3)] (some "PutRows") = some x0 := id rfl
  have so1 : ∀ {x0 x1 x2 x3 : GF}, selT [("PutRows", x0), ("TakeRows", x1), ("PutColumns", x2), ("TakeColumns", x3)] (some "TakeRows") = some x1 := id rfl
  have st0 : ∀ {x0 x1 x2 x3 : Nat × GF × List D}, selT [("PutRows", x0), ("TakeRows", x1), ("PutColumns", x2), ("TakeColumns", x3)] (some "PutRows") = some x0 := id rfl
  have st1 : ∀ {x0 x1 x2 x3 : Nat × GF × List D}, selT [("PutRows", x0), ("TakeRows", x1), ("PutColumns", x2), ("TakeColumns", x3)] (some "TakeRows") = some x1 := id rfl
  clear h1 h2 g0 g1 g2 g3 g4
  trivial
  exact fr_same hc rfl ⟨rfl, rfl⟩
theorem tx_TakeRows (h1 : Ok31 a) (h2 : Ok31 m) : opAdd μ (.str "TakeRows") (.str "(") = some (.str ("TakeRows" ++ "(")) ∧ opAdd μ (.str ("TakeRows" ++ "(")) (.str (numS a)) = some (.str ("TakeRows" ++ "(" ++ numS a)) ∧ opAdd μ (.str ("TakeRows" ++ "(" ++ numS a)) (.str ", ") = some (.str ("TakeRows" ++ "(" ++ numS a ++ ", ")) ∧
    opAdd μ (.str ("TakeRows" ++ "(" ++ numS a ++ ", ")) (.str (numS m)) = some (.str ("TakeRows" ++ "(" ++ numS a ++ ", " ++ numS m)) ∧ opAdd μ (.str ("TakeRows" ++ "(" ++ numS a ++ ", " ++ numS m)) (.str ")") = some (.str (chS "TakeRows" a m)) := by
  have l1 := numS_len h1.1 h1.2
  have l2 := numS_len h2.1 h2.2
  have L := str_len_app
  have k0 : ("TakeRows" : Str).length = 8 := rfl
  have k1 : ("(" : Str).length = 1 := rfl
  have k2 : (", " : Str).length = 2 := rfl
  have k3 : (")" : Str).length = 1 := rfl
  refine ⟨add_s ?_, add_s ?_, add_s ?_, add_s ?_, add_s ?_⟩ <;> simp only [L, k0, k1, k2, k3] <;> omega
theorem lr_TakeRows (hc : Cln μ) (h1 : Ok31 a) (h2 : Ok31 m) : G_law_lines_right [.int 1, .int a, .int m] μ = .ok (.bl true) μ := by
  apply eq_ok
  unfold G_law_lines_right
  refine wo_fn rfl ?_
  unfold D_law_lines_right
  have nm : opIx μ (.lst [.str "PutRows", .str "TakeRows", .str "PutColumns", .str "TakeColumns"]) (.int 1) = some (.str "TakeRows") := rfl
  have un : opIx μ (.lst [.int 1, .int 0, .int 3, .int 2]) (.int 1) = some (.int 0) := rfl
  have g0 : 1 ≤ a := h1.1
  have g1 : 1 ≤ m := h2.1
  have g2 : 1 ≤ a + 1 := by omega
  have g3 : 1 ≤ m + 1 := by omega
  have g4 : (1 : Int) ≤ 1 := by omega
  have c0 : G_law_lines [.int 0, .int a, .int m] μ = .ok (chD "PutRows" a m) μ := x_linesC hc (by decide) (by decide) g0 g1
  have c1 : G_law_lines [.int 1, .int a, .int m] μ = .ok (chD "TakeRows" a m) μ := x_linesC hc (by decide) (by decide) g0 g1
  have c2 : G_law_lines [.int 2, .int a, .int m] μ = .ok (chD "PutColumns" a m) μ := x_linesC hc (by decide) (by decide) g0 g1
  have c3 : G_law_lines [.int 3, .int a, .int m] μ = .ok (chD "TakeColumns" a m) μ := x_linesC hc (by decide) (by decide) g0 g1
  have c5 : G_law_lines [.int 1, .int (a + 1), .int m] μ = .ok (chD "TakeRows" (a + 1) m) μ := x_linesC hc (by decide) (by decide) g2 g1
  have c6 : G_law_lines [.int 1, .int a, .int (m + 1)] μ = .ok (chD "TakeRows" a (m + 1)) μ := x_linesC hc (by decide) (by decide) g0 g3
  have c7 : G_law_lines [.int 1, .int a, .int 1] μ = .ok (chD "TakeRows" a 1) μ := x_linesC hc (by decide) (by decide) g0 g4
  have c8 : G_law_alone [.int 1, .int a] μ = .ok (chD "TakeRows" a 1) μ := x_alone hc (by decide) (by decide) g0
  have s1 := numS_str (μ := μ) h1.1 h1.2
  have s2 := numS_str (μ := μ) h2.1 h2.2
  obtain ⟨p1, p2, p3, p4, p5⟩ := tx_TakeRows (μ := μ) h1 h2
  have rp := repr_TakeRows hc h1 h2
  have n2 := ne2 (μ := μ) (a := a) (m := m)
  have i0 : opIn false μ (.int 0) (.tup [.int 1, .int 5]) = some (.bl false) := by with_unfolding_all rfl
  have i1 : opIn false μ (.int 1) (.tup [.int 1, .int 5]) = some (.bl true) := by with_unfolding_all rfl
  have i2 : opIn false μ (.int 2) (.tup [.int 1, .int 5]) = some (.bl false) := by with_unfolding_all rfl
  have i3 : opIn false μ (.int 3) (.tup [.int 1, .int 5]) = some (.bl false) := by with_unfolding_all rfl
  have i4 : opIn false μ (.int 4) (.tup [.int 1, .int 5]) = some (.bl false) := by with_unfolding_all rfl
  have i5 : opIn false μ (.int 5) (.tup [.int 1, .int 5]) = some (.bl true) := by with_unfolding_all rfl
  have kd := kinds_TakeRows (a := a) (m := m) hc
  have kn : opNe μ (.lst [.bl false, .bl true, .bl false, .bl false, .bl false, .bl true]) (.lst [.bl false, .bl true, .bl false, .bl false, .bl false, .bl true]) = some (.bl false) := by with_unfolding_all rfl
  have ud := undo_TakeRows hc g0 g1
  have q0 := eq_PutRows (a := a) (m := m) (b := a) (n := m) hc
  rw [decide_eq_true (show a = a ∧ m = m from ⟨rfl, rfl⟩)] at q0
  have q1 := eq_TakeRows (a := a) (m := m) (b := a) (n := m) hc
  rw [decide_eq_true (show a = a ∧ m = m from ⟨rfl, rfl⟩)] at q1
  have q2 := eq_TakeRows (a := a) (m := m) (b := a + 1) (n := m) hc
  rw [decide_eq_false (show ¬ (a = a + 1 ∧ m = m) from fun z => by omega)] at q2
  have q3 := eq_TakeRows (a := a) (m := m) (b := a) (n := m + 1) hc
  rw [decide_eq_false (show ¬ (a = a ∧ m = m + 1) from fun z => by omega)] at q3
  have q4 := eq_TakeRows (a := a) (m := 1) (b := a) (n := 1) hc
  rw [decide_eq_true (show a = a ∧ (1 : Int) = 1 from ⟨rfl, rfl⟩)] at q4
  have r0 := eqO_TakeRows_PutRows (a := a) (m := m) (b := a) (n := m) hc
  have r2 := eqO_TakeRows_PutColumns (a := a) (m := m) (b := a) (n := m) hc
  have r3 := eqO_TakeRows_TakeColumns (a := a) (m := m) (b := a) (n := m) hc
  have fi : opIn false μ (.bl true) (.lst [.bl false, .bl false, .bl false]) = some (.bl false) := by with_unfolding_all rfl
  have so0 : ∀ {x0 x1 x2 x3 : GF}, selT [("PutRows", x0), ("TakeRows", x1), ("PutColumns", x2), ("TakeColumns", x3)] (some "TakeRows") = some x1 := id rfl
  have so1 : ∀ {x0 x1 x2 x3 : GF}, selT [("PutRows", x0), ("TakeRows", x1), ("PutColumns", x2), ("TakeColumns", x3)] (some "PutRows") = some x0 := id rfl
  have st0 : ∀ {x0 x1 x2 x3 : Nat × GF × List D}, selT [("PutRows", x0), ("TakeRows", x1), ("PutColumns", x2), ("TakeColumns", x3)] (some "TakeRows") = some x1 := id rfl
  have st1 : ∀ {x0 x1 x2 x3 : Nat × GF × List D}, selT [("PutRows", x0), ("TakeRows", x1), ("PutColumns", x2), ("TakeColumns", x3)] (some "PutRows") = some x0 := id rfl
  clear h1 h2 g0 g1 g2 g3 g4
  trivial
  exact fr_same hc rfl ⟨rfl, rfl⟩
theorem tx_PutColumns (h1 : Ok31 a) (h2 : Ok31 m) : opAdd μ (.str "PutColumns") (.str "(") = some (.str ("PutColumns" ++ "(")) ∧ opAdd μ (.str ("PutColumns" ++ "(")) (.str (numS a)) = some (.str ("PutColumns" ++ "(" ++ numS a)) ∧ opAdd μ (.str ("PutColumns" ++ "(" ++ numS a)) (.str ", ") = some (.str ("PutColumns" ++ "(" ++ numS a ++ ", ")) ∧
    opAdd μ (.str ("PutColumns" ++ "(" ++ numS a ++ ", ")) (.str (numS m)) = some (.str ("PutColumns" ++ "(" ++ numS a ++ ", " ++ numS m)) ∧ opAdd μ (.str ("PutColumns" ++ "(" ++ numS a ++ ", " ++ numS m)) (.str ")") = some (.str (chS "PutColumns" a m)) := by
  have l1 := numS_len h1.1 h1.2
  have l2 := numS_len h2.1 h2.2
  have L := str_len_app
  have k0 : ("PutColumns" : Str).length = 10 := rfl
  have k1 : ("(" : Str).length = 1 := rfl
  have k2 : (", " : Str).length = 2 := rfl
  have k3 : (")" : Str).length = 1 := rfl
  refine ⟨add_s ?_, add_s ?_, add_s ?_, add_s ?_, add_s ?_⟩ <;> simp only [L, k0, k1, k2, k3] <;> omega
theorem lr_PutColumns (hc : Cln μ) (h1 : Ok31 a) (h2 : Ok31 m) : G_law_lines_right [.int 2, .int a, .int m] μ = .ok (.bl true) μ := by
  apply eq_ok
  unfold G_law_lines_right
  refine wo_fn rfl ?_
  unfold D_law_lines_right
  have nm : opIx μ (.lst [.str "PutRows", .str "TakeRows", .str "PutColumns", .str "TakeColumns"]) (.int 2) = some (.str "PutColumns") := rfl
  have un : opIx μ (.lst [.int 1, .int 0, .int 3, .int 2]) (.int 2) = some (.int 3) := rfl
  have g0 : 1 ≤ a := h1.1
  have g1 : 1 ≤ m := h2.1
  have g2 : 1 ≤ a + 1 := by omega
  have g3 : 1 ≤ m + 1 := by omega
  have g4 : (1 : Int) ≤ 1 := by omega
  have c0 : G_law_lines [.int 0, .int a, .int m] μ = .ok (chD "PutRows" a m) μ := x_linesC hc (by decide) (by decide) g0 g1
  have c1 : G_law_lines [.int 1, .int a, .int m] μ = .ok (chD "TakeRows" a m) μ := x_linesC hc (by decide) (by decide) g0 g1
  have c2 : G_law_lines [.int 2, .int a, .int m] μ = .ok (chD "PutColumns" a m) μ := x_linesC hc (by decide) (by decide) g0 g1
  have c3 : G_law_lines [.int 3, .int a, .int m] μ = .ok (chD "TakeColumns" a m) μ := x_linesC hc (by decide) (by decide) g0 g1
  have c5 : G_law_lines [.int 2, .int (a + 1), .int m] μ = .ok (chD "PutColumns" (a + 1) m) μ := x_linesC hc (by decide) (by decide) g2 g1
  have c6 : G_law_lines [.int 2, .int a, .int (m + 1)] μ = .ok (chD "PutColumns" a (m + 1)) μ := x_linesC hc (by decide) (by decide) g0 g3
  have c7 : G_law_lines [.int 2, .int a, .int 1] μ = .ok (chD "PutColumns" a 1) μ := x_linesC hc (by decide) (by decide) g0 g4
  have c8 : G_law_alone [.int 2, .int a] μ = .ok (chD "PutColumns" a 1) μ := x_alone hc (by decide) (by decide) g0
  have s1 := numS_str (μ := μ) h1.1 h1.2
  have s2 := numS_str (μ := μ) h2.1 h2.2
  obtain ⟨p1, p2, p3, p4, p5⟩ := tx_PutColumns (μ := μ) h1 h2
  have rp := repr_PutColumns hc h1 h2
  have n2 := ne2 (μ := μ) (a := a) (m := m)
  have i0 : opIn false μ (.int 0) (.tup [.int 2, .int 5]) = some (.bl false) := by with_unfolding_all rfl
  have i1 : opIn false μ (.int 1) (.tup [.int 2, .int 5]) = some (.bl false) := by with_unfolding_all rfl
  have i2 : opIn false μ (.int 2) (.tup [.int 2, .int 5]) = some (.bl true) := by with_unfolding_all rfl
  have i3 : opIn false μ (.int 3) (.tup [.int 2, .int 5]) = some (.bl false) := by with_unfolding_all rfl
  have i4 : opIn false μ (.int 4) (.tup [.int 2, .int 5]) = some (.bl false) := by with_unfolding_all rfl
  have i5 : opIn false μ (.int 5) (.tup [.int 2, .int 5]) = some (.bl true) := by with_unfolding_all rfl
  have kd := kinds_PutColumns (a := a) (m := m) hc
  have kn : opNe μ (.lst [.bl false, .bl false, .bl true, .bl false, .bl false, .bl true]) (.lst [.bl false, .bl false, .bl true, .bl false, .bl false, .bl true]) = some (.bl false) := by with_unfolding_all rfl
  have ud := undo_PutColumns hc g0 g1
  have q0 := eq_TakeColumns (a := a) (m := m) (b := a) (n := m) hc
  rw [decide_eq_true (show a = a ∧ m = m from ⟨rfl, rfl⟩)] at q0
  have q1 := eq_PutColumns (a := a) (m := m) (b := a) (n := m) hc
  rw [decide_eq_true (show a = a ∧ m = m from ⟨rfl, rfl⟩)] at q1
  have q2 := eq_PutColumns (a := a) (m := m) (b := a + 1) (n := m) hc
  rw [decide_eq_false (show ¬ (a = a + 1 ∧ m = m) from fun z => by omega)] at q2
  have q3 := eq_PutColumns (a := a) (m := m) (b := a) (n := m + 1) hc
  rw [decide_eq_false (show ¬ (a = a ∧ m = m + 1) from fun z => by omega)] at q3
  have q4 := eq_PutColumns (a := a) (m := 1) (b := a) (n := 1) hc
  rw [decide_eq_true (show a = a ∧ (1 : Int) = 1 from ⟨rfl, rfl⟩)] at q4
  have r0 := eqO_PutColumns_PutRows (a := a) (m := m) (b := a) (n := m) hc
  have r1 := eqO_PutColumns_TakeRows (a := a) (m := m) (b := a) (n := m) hc
  have r3 := eqO_PutColumns_TakeColumns (a := a) (m := m) (b := a) (n := m) hc
  have fi : opIn false μ (.bl true) (.lst [.bl false, .bl false, .bl false]) = some (.bl false) := by with_unfolding_all rfl
  have so0 : ∀ {x0 x1 x2 x3 : GF}, selT [("PutRows", x0), ("TakeRows", x1), ("PutColumns", x2), ("TakeColumns", x3)] (some "PutColumns") = some x2 := id rfl
  have so1 : ∀ {x0 x1 x2 x3 : GF}, selT [("PutRows", x0), ("TakeRows", x1), ("PutColumns", x2), ("TakeColumns", x3)] (some "TakeColumns") = some x3 := id rfl
  have st0 : ∀ {x0 x1 x2 x3 : Nat × GF × List D}, selT [("PutRows", x0), ("TakeRows", x1), ("PutColumns", x2), ("TakeColumns", x3)] (some "PutColumns") = some x2 := id rfl
  have st1 : ∀ {x0 x1 x2 x3 : Nat × GF × List D}, selT [("PutRows", x0), ("TakeRows", x1), ("PutColumns", x2), ("TakeColumns", x3)] (some "TakeColumns") = some x3 := id rfl
  clear h1 h2 g0 g1 g2 g3 g4
  trivial
  exact fr_same hc rfl ⟨rfl, rfl⟩
theorem tx_TakeColumns (h1 : Ok31 a) (h2 : Ok31 m) : opAdd μ (.str "TakeColumns") (.str "(") = some (.str ("TakeColumns" ++ "(")) ∧ opAdd μ (.str ("TakeColumns" ++ "(")) (.str (numS a)) = some (.str ("TakeColumns" ++ "(" ++ numS a)) ∧ opAdd μ (.str ("TakeColumns" ++ "(" ++ numS a)) (.str ", ") = some (.str ("TakeColumns" ++ "(" ++ numS a ++ ", ")) ∧
    opAdd μ (.str ("TakeColumns" ++ "(" ++ numS a ++ ", ")) (.str (numS m)) = some (.str ("TakeColumns" ++ "(" ++ numS a ++ ", " ++ numS m)) ∧ opAdd μ (.str ("TakeColumns" ++ "(" ++ numS a ++ ", " ++ numS m)) (.str ")") = some (.str (chS "TakeColumns" a m)) := by
  have l1 := numS_len h1.1 h1.2
  have l2 := numS_len h2.1 h2.2
  have L := str_len_app
  have k0 : ("TakeColumns" : Str).length = 11 := rfl
  have k1 : ("(" : Str).length = 1 := rfl
  have k2 : (", " : Str).length = 2 := rfl
  have k3 : (")" : Str).length = 1 := rfl
  refine ⟨add_s ?_, add_s ?_, add_s ?_, add_s ?_, add_s ?_⟩ <;> simp only [L, k0, k1, k2, k3] <;> omega
theorem lr_TakeColumns (hc : Cln μ) (h1 : Ok31 a) (h2 : Ok31 m) : G_law_lines_right [.int 3, .int a, .int m] μ = .ok (.bl true) μ := by
  apply eq_ok
  unfold G_law_lines_right
  refine wo_fn rfl ?_
  unfold D_law_lines_right
  have nm : opIx μ (.lst [.str "PutRows", .str "TakeRows", .str "PutColumns", .str "TakeColumns"]) (.int 3) = some (.str "TakeColumns") := rfl
  have un : opIx μ (.lst [.int 1, .int 0, .int 3, .int 2]) (.int 3) = some (.int 2) := rfl
  have g0 : 1 ≤ a := h1.1
  have g1 : 1 ≤ m := h2.1
  have g2 : 1 ≤ a + 1 := by omega
  have g3 : 1 ≤ m + 1 := by omega
  have g4 : (1 : Int) ≤ 1 := by omega
  have c0 : G_law_lines [.int 0, .int a, .int m] μ = .ok (chD "PutRows" a m) μ := x_linesC hc (by decide) (by decide) g0 g1
  have c1 : G_law_lines [.int 1, .int a, .int m] μ = .ok (chD "TakeRows" a m) μ := x_linesC hc (by decide) (by decide) g0 g1
  have c2 : G_law_lines [.int 2, .int a, .int m] μ = .ok (chD "PutColumns" a m) μ := x_linesC hc (by decide) (by decide) g0 g1
  have c3 : G_law_lines [.int 3, .int a, .int m] μ = .ok (chD "TakeColumns" a m) μ := x_linesC hc (by decide) (by decide) g0 g1
  have c5 : G_law_lines [.int 3, .int (a + 1), .int m] μ = .ok (chD "TakeColumns" (a + 1) m) μ := x_linesC hc (by decide) (by decide) g2 g1
  have c6 : G_law_lines [.int 3, .int a, .int (m + 1)] μ = .ok (chD "TakeColumns" a (m + 1)) μ := x_linesC hc (by decide) (by decide) g0 g3
  have c7 : G_law_lines [.int 3, .int a, .int 1] μ = .ok (chD "TakeColumns" a 1) μ := x_linesC hc (by decide) (by decide) g0 g4
  have c8 : G_law_alone [.int 3, .int a] μ = .ok (chD "TakeColumns" a 1) μ := x_alone hc (by decide) (by decide) g0
  have s1 := numS_str (μ := μ) h1.1 h1.2
  have s2 := numS_str (μ := μ) h2.1 h2.2
  obtain ⟨p1, p2, p3, p4, p5⟩ := tx_TakeColumns (μ := μ) h1 h2
  have rp := repr_TakeColumns hc h1 h2
  have n2 := ne2 (μ := μ) (a := a) (m := m)
  have i0 : opIn false μ (.int 0) (.tup [.int 3, .int 5]) = some (.bl false) := by with_unfolding_all rfl
  have i1 : opIn false μ (.int 1) (.tup [.int 3, .int 5]) = some (.bl false) := by with_unfolding_all rfl
  have i2 : opIn false μ (.int 2) (.tup [.int 3, .int 5]) = some (.bl false) := by with_unfolding_all rfl
  have i3 : opIn false μ (.int 3) (.tup [.int 3, .int 5]) = some (.bl true) := by with_unfolding_all rfl
  have i4 : opIn false μ (.int 4) (.tup [.int 3, .int 5]) = some (.bl false) := by with_unfolding_all rfl
  have i5 : opIn false μ (.int 5) (.tup [.int 3, .int 5]) = some (.bl true) := by with_unfolding_all rfl
  have kd := kinds_TakeColumns (a := a) (m := m) hc
  have kn : opNe μ (.lst [.bl false, .bl false, .bl false, .bl true, .bl false, .bl true]) (.lst [.bl false, .bl false, .bl false, .bl true, .bl false, .bl true]) = some (.bl false) := by with_unfolding_all rfl
  have ud := undo_TakeColumns hc g0 g1
  have q0 := eq_PutColumns (a := a) (m := m) (b := a) (n := m) hc
  rw [decide_eq_true (show a = a ∧ m = m from ⟨rfl, rfl⟩)] at q0
  have q1 := eq_TakeColumns (a := a) (m := m) (b := a) (n := m) hc
  rw [decide_eq_true (show a = a ∧ m = m from ⟨rfl, rfl⟩)] at q1
  have q2 := eq_TakeColumns (a := a) (m := m) (b := a + 1) (n := m) hc
  rw [decide_eq_false (show ¬ (a = a + 1 ∧ m = m) from fun z => by omega)] at q2
  have q3 := eq_TakeColumns (a := a) (m := m) (b := a) (n := m + 1) hc
  rw [decide_eq_false (show ¬ (a = a ∧ m = m + 1) from fun z => by omega)] at q3
  have q4 := eq_TakeColumns (a := a) (m := 1) (b := a) (n := 1) hc
  rw [decide_eq_true (show a = a ∧ (1 : Int) = 1 from ⟨rfl, rfl⟩)] at q4
  have r0 := eqO_TakeColumns_PutRows (a := a) (m := m) (b := a) (n := m) hc
  have r1 := eqO_TakeColumns_TakeRows (a := a) (m := m) (b := a) (n := m) hc
  have r2 := eqO_TakeColumns_PutColumns (a := a) (m := m) (b := a) (n := m) hc
  have fi : opIn false μ (.bl true) (.lst [.bl false, .bl false, .bl false]) = some (.bl false) := by with_unfolding_all rfl
  have so0 : ∀ {x0 x1 x2 x3 : GF}, selT [("PutRows", x0), ("TakeRows", x1), ("PutColumns", x2), ("TakeColumns", x3)] (some "TakeColumns") = some x3 := id rfl
  have so1 : ∀ {x0 x1 x2 x3 : GF}, selT [("PutRows", x0), ("TakeRows", x1), ("PutColumns", x2), ("TakeColumns", x3)] (some "PutColumns") = some x2 := id rfl
  have st0 : ∀ {x0 x1 x2 x3 : Nat × GF × List D}, selT [("PutRows", x0), ("TakeRows", x1), ("PutColumns", x2), ("TakeColumns", x3)] (some "TakeColumns") = some x3 := id rfl
  have st1 : ∀ {x0 x1 x2 x3 : Nat × GF × List D}, selT [("PutRows", x0), ("TakeRows", x1), ("PutColumns", x2), ("TakeColumns", x3)] (some "PutColumns") = some x2 := id rfl
  clear h1 h2 g0 g1 g2 g3 g4
  trivial
  exact fr_same hc rfl ⟨rfl, rfl⟩
theorem x_lines_right {w : Int} (hc : Cln μ) (w0 : 0 ≤ w) (w1 : w < 4) (h1 : Ok31 a) (h2 : Ok31 m) : G_law_lines_right [.int w, .int a, .int m] μ = .ok (.bl true) μ := by
  rcases way_cases w0 w1 with rfl | rfl | rfl | rfl
  · exact lr_PutRows hc h1 h2
  · exact lr_TakeRows hc h1 h2
  · exact lr_PutColumns hc h1 h2
  · exact lr_TakeColumns hc h1 h2
end
end PG
namespace PG
open PySem PySem.Spec PyProof.Rows L2 DL
/-! moves -/
/-- a block with both ends, as a value -/
def bkD (t l q r : Int) : D := .obj "Block" bNs [.int t, .int l, .int q, .int r]
abbrev mNs : List Str := ["block", "row", "column"]
def mvD (t l q r x y : Int) : D := .obj "Move" mNs [bkD t l q r, .int x, .int y]
structure Bk (t l q r : Int) : Prop where
  ot : 1 ≤ t
  ol : 1 ≤ l
  oq : t ≤ q
  or_ : l ≤ r
section
variable {μ : List M} {d e f s : D} {a m b n t l q r x y t' l' q' r' x' y' : Int} {c : Str}
theorem c_bk : clsAt μ (bkD t l q r) = some ("Block" : Str) := rfl
theorem tag_bk : tagOf μ (bkD t l q r) = some (.inr ("Block" : Str)) := rfl
theorem kb_top : fldAt μ "top" (bkD t l q r) = some (.int t) := by with_unfolding_all rfl
theorem kb_left : fldAt μ "left" (bkD t l q r) = some (.int l) := by with_unfolding_all rfl
theorem kb_bottom : fldAt μ "bottom" (bkD t l q r) = some (.int q) := by with_unfolding_all rfl
theorem kb_right : fldAt μ "right" (bkD t l q r) = some (.int r) := by with_unfolding_all rfl
theorem isBk : bIsU (.inr "Block") μ [bkD t l q r, .glo "Block"] = some (.bl true) := by with_unfolding_all rfl
theorem Bk.ok (h : Bk t l q r) : Blk.Ok ⟨t, l, some q, some r⟩ := ⟨h.ot, h.ol, decide_eq_true h.oq, decide_eq_true h.or_⟩
theorem mk_bk (hc : Cln μ) (h : Bk t l q r) : makeD "Block" 5 G_Block_init__ [.int t, .int l, .int q, .int r] μ = .ok (bkD t l q r) μ := x_make (b := ⟨t, l, some q, some r⟩) hc h.ok
theorem c_mv : clsAt μ (mvD t l q r x y) = some ("Move" : Str) := rfl
theorem tag_mv : tagOf μ (mvD t l q r x y) = some (.inr ("Move" : Str)) := rfl
theorem f_block : fldAt μ "block" (mvD t l q r x y) = some (bkD t l q r) := by with_unfolding_all rfl
theorem f_row : fldAt μ "row" (mvD t l q r x y) = some (.int x) := by with_unfolding_all rfl
theorem f_column : fldAt μ "column" (mvD t l q r x y) = some (.int y) := by with_unfolding_all rfl
theorem is_steps : isC "Move" "steps" μ (mvD t l q r x y) = True := eq_true ⟨rfl, by with_unfolding_all rfl⟩
theorem is_target : isC "Move" "target" μ (mvD t l q r x y) = True := eq_true ⟨rfl, by with_unfolding_all rfl⟩
theorem is_undo : isC "Move" "undoing" μ (mvD t l q r x y) = True := eq_true ⟨rfl, by with_unfolding_all rfl⟩
theorem isMv : bIsU (.inr "Move") μ [mvD t l q r x y, .glo "Move"] = some (.bl true) := by with_unfolding_all rfl
theorem is_chk_Move : isC "Move" "checked" (μ ++ [M.obj "Move" [] []]) (.cel μ.length) = True := eq_true ⟨by
  show (match (μ ++ [M.obj "Move" [] []])[μ.length]? with | some (.obj c _ _) => some c | _ => none) = _
  rw [List.getElem?_concat_length], by
  show (match (μ ++ [M.obj "Move" [] []])[μ.length]? with | some (.obj c ns l) => fldOf "checked" ns l | _ => none).isNone = true
  rw [List.getElem?_concat_length]; rfl⟩
end
local macro_rules | `(tactic| trivial) => `(tactic| simp (config := { dsimp := false }) only [*, eq_self, DL.w_ok, DL.w_ex, DL.w_bind, DL.w_bindS, DL.o_some, DL.w_dC, DL.w_var, DL.w_op, DL.a_nil, DL.a_cons, DL.w_tup, DL.w_lst, DL.w_blt, DL.w_call, DL.w_callN, DL.w_or, DL.w_and, DL.w_not, DL.w_neg, DL.w_if, DL.w_chain, DL.t_tru, DL.t_tst, DL.t_and, DL.t_or, DL.t_not, DL.p_no, DL.p_some, DL.w_slc, DL.w_m1, DL.w_m0, DL.w_fld, DL.s_nil, DL.s_brk, DL.s_cnt, DL.s_retN, DL.s_raise, DL.s_seq, DL.s_ret, DL.s_exp, DL.s_if, DL.s_set, DL.s_new, DL.s_cel, DL.s_retC, DL.s_par, DL.s_asg, DL.e_add, DL.e_sub, DL.e_mulR, DL.e_mulL, DL.e_modS, DL.e_divS, DL.e_pow, DL.e_lt, DL.e_le, DL.e_gt, DL.e_ge, DL.e_is, DL.e_isN, DL.e_eqI, DL.e_neI, DL.e_eqS, DL.e_neS, DL.h_bl, DL.h_int, DL.h_non, DL.b_bl, DL.i_int, DL.s_str, DL.l_lst, DL.q_lst, DL.q_tup, DL.c_lst, DL.c_seq, DL.c_lis, DL.x_cel, DL.x_lst, DL.x_tup, DL.at_nn, DL.ix_in, DL.p_cel, DL.e_mulIf, DL.e_mulM, DL.t_len, DL.t_intB, DL.start, DL.s_setIx, DL.s_for, DL.i_rng, DL.i_rng2, DL.w_lc, DL.r_one, DL.s_app, DL.g_cel, DL.w_dct0, DL.w_meth, DL.isC_obj, DL.w_make, DL.w_pick, DL.pick_cons, DL.pick_nil, DL.w_own, DL.w_ne, DL.w_obS, DL.cls_obj, DL.fld_obj, DL.w_fmt, DL.w_fs, DL.w_fsNil, DL.w_fsCons, DL.w_isT, DL.w_revA, DL.s_try, DL.s_raiseI, DL.s_tryP, DL.s_endX, DL.w_isXT, DL.i_any, DL.ia_tup, DL.ia_str, DL.ia_lst, DL.ia_scr, DL.ia_cel, DL.gl_glo, DL.w_callA, DL.s_tryN, DL.s_never, DL.s_fld, DL.w_listN, DL.g_seq, DL.g_cons, DL.g_nil, DL.g_nm, DL.t_yes, DL.wipe_cons, DL.wipe_nil, DL.nn_non, DL.nn_int, DL.nn_str, DL.nn_bl, DL.nn_tup, DL.nn_lst, DL.w_fmR, DL.w_owns, DL.w_nes, DL.w_obSs, DL.w_meths, List.map_cons, List.map_nil, List.length_cons, List.length_nil, List.cons_append, List.nil_append, List.append_nil, List.drop_zero, List.drop_nil, List.drop_succ_cons, List.getElem?_cons_zero, List.getElem?_cons_succ, List.set_cons_zero, List.set_cons_succ, List.replicate_succ, List.replicate_zero, Option.join_some, Option.map_some, if_true, if_false, Bool.not_true, Bool.not_false, true_and, and_true, Nat.reduceAdd, Nat.reduceSub, Nat.reduceLeDiff, decide_true, decide_false, Bool.false_eq_true, Option.bind_some, Int.reduceToNat, List.getElem?_set_self, Int.reduceLT, Int.reduceLE, Int.reduceNeg, Int.reduceSub, Int.reduceAdd, Int.reduceMul, Int.reducePow, Nat.reduceLT, Int.reduceEq, ite_self, c_bk, kb_top, kb_left, kb_bottom, kb_right, isBk, c_mv, f_block, f_row, f_column, is_steps, is_target, is_undo, isMv, tag_bk, tag_mv, Option.isSome_some, PG.dfl_Block_eq__, PG.dfl_Block_init__, PG.dfl_Block_repr__, PG.dfl_Change_checked, PG.dfl_Move_eq__, PG.dfl_Move_init__, PG.dfl_Move_repr__, PG.dfl_Move_steps, PG.dfl_Move_target, PG.dfl_Move_undoing, PG.dfl_is_count, PG.dfl_is_end, PG.dfl_law_kinds, PG.dfl_moved_block, PG.dfl_moved_ends])
section
variable {μ : List M} {d e f s : D} {a m b n t l q r x y t' l' q' r' x' y' : Int} {c : Str}
theorem eq4 : opEq μ (.tup [.int t, .int l, .int q, .int r]) (.tup [.int t', .int l', .int q', .int r']) = some (.bl (decide (t = t' ∧ l = l' ∧ q = q' ∧ r = r'))) := by
  show some (D.bl ((t == t') && ((l == l') && ((q == q') && ((r == r') && true))))) = _
  by_cases q1 : t = t' <;> by_cases q2 : l = l' <;> by_cases q3 : q = q' <;> by_cases q4 : r = r' <;> simp [q1, q2, q3, q4]
theorem ne4 : opNe μ (.tup [.int t, .int l, .int q, .int r]) (.tup [.int t, .int l, .int q, .int r]) = some (.bl false) := by
  show some (D.bl (!((t == t) && ((l == l) && ((q == q) && ((r == r) && true)))))) = _
  simp
theorem ne2g : opNe μ (.tup [.int t, .int l]) (.tup [.int t', .int l']) = some (.bl (!decide (t = t' ∧ l = l'))) := by
  show some (D.bl (!((t == t') && ((l == l') && true)))) = _
  by_cases q1 : t = t' <;> by_cases q2 : l = l' <;> simp [q1, q2]
theorem eq_bk (hc : Cln μ) : G_Block_eq__ [bkD t l q r, bkD t' l' q' r'] μ = .ok (.bl (decide (t = t' ∧ l = l' ∧ q = q' ∧ r = r'))) μ := by
  apply eq_ok
  unfold G_Block_eq__
  refine wo_fn rfl ?_
  unfold D_Block_eq__
  have e2 := eq4 (μ := μ) (t := t) (l := l) (q := q) (r := r) (t' := t') (l' := l') (q' := q') (r' := r')
  trivial
  exact fr_same hc rfl ⟨rfl, rfl⟩
/-- a move, made -/
theorem mk_mv (hc : Cln μ) (h1 : 1 ≤ x) (h2 : 1 ≤ y) : makeD "Move" 4 G_Move_init__ [bkD t l q r, .int x, .int y] μ = .ok (mvD t l q r x y) μ := by
  have hc2 : Cln (μ ++ [M.obj "Move" [] []]) := hc.snoc rfl
  have k1 := chk2 (s := .cel μ.length) (d := .int x) (e := .int y) hc2 rfl rfl
  have is1 := is_chk_Move (μ := μ)
  rw [if_pos (by show (decide (1 ≤ x) && decide (1 ≤ y)) = true; rw [decide_eq_true h1, decide_eq_true h2]; rfl)] at k1
  have hcl : cleans 0 [bkD t l q r, .int x, .int y] = true := rfl
  refine makeD_ok hc rfl hcl ?_
  clear h1 h2
  apply eq_ok
  unfold G_Move_init__
  refine wo_fn rfl ?_
  unfold D_Move_init__
  have f1 : celO (μ ++ [M.obj "Move" [] []]) (.cel μ.length) = some (μ.length, ("Move" : Str), ([] : List Str), ([] : List D)) := co_cel List.getElem?_concat_length
  have st : ∀ {a b : M}, (μ ++ [a]).set μ.length b = μ ++ [b] := setE
  have f2 : ∀ {ns l}, celO (μ ++ [M.obj "Move" ns l]) (.cel μ.length) = some (μ.length, ("Move" : Str), ns, l) := co_cel List.getElem?_concat_length
  have p1 : putD "block" (bkD t l q r) [] [] = ((["block"] : List Str), ([bkD t l q r] : List D)) := rfl
  have p2 : putD "row" (.int x) ["block"] [bkD t l q r] = ((["block", "row"] : List Str), ([bkD t l q r, .int x] : List D)) := by with_unfolding_all rfl
  have p3 : putD "column" (.int y) ["block", "row"] [bkD t l q r, .int x] = ((["block", "row", "column"] : List Str), ([bkD t l q r, .int x, .int y] : List D)) := by with_unfolding_all rfl
  trivial
  refine ⟨rfl, hc.snoc hcl, rfl, ?_⟩
  rw [List.take_of_length_le (by rw [List.length_append, List.length_append]; exact Nat.le_refl _)]
/-- refused: the block is none, or lacks an end -/
theorem no_mv1 (hc : Cln μ) (h : ∀ m : List M, bIsU (.inr "Block") m [d, .glo "Block"] = some (.bl false)) : makeD "Move" 4 G_Move_init__ [d, e, f] μ = .ex "NoChange" [] [] μ := by
  have hc2 : Cln (μ ++ [M.obj "Move" [] []]) := hc.snoc rfl
  refine makeD_ex hc rfl ?_
  apply eq_ex
  unfold G_Move_init__
  refine wo_fn rfl ?_
  unfold D_Move_init__
  trivial
  first | exact ⟨rfl, List.take_length⟩ | exact ⟨hc2, rfl, rfl, rfl, List.take_length⟩ | exact ⟨rfl, hc2, rfl, rfl, rfl, List.take_length⟩
theorem no_mv2 {bb : Blk} (hc : Cln μ) (h : bb.b = none ∨ bb.r = none) : makeD "Move" 4 G_Move_init__ [blkD bb, e, f] μ = .ex "NoChange" [] [] μ := by
  have hc2 : Cln (μ ++ [M.obj "Move" [] []]) := hc.snoc rfl
  refine makeD_ex hc rfl ?_
  apply eq_ex
  unfold G_Move_init__
  refine wo_fn rfl ?_
  unfold D_Move_init__
  have i1 : ∀ m : List M, bIsU (.inr "Block") m [blkD bb, .glo "Block"] = some (.bl true) := fun m => isBlk
  have i2 : ∀ m : List M, fldAt m "bottom" (blkD bb) = some (opt bb.b) := fun m => f_bottom
  have i3 : ∀ m : List M, fldAt m "right" (blkD bb) = some (opt bb.r) := fun m => f_right
  have cb : ∀ m : List M, clsAt m (blkD bb) = some ("Block" : Str) := fun _ => rfl
  have is1 : isNon (opt none) = true := rfl
  have is2 : ∀ i, isNon (opt (some i)) = false := fun _ => rfl
  cases k1 : bb.b with
  | none =>
    rw [k1] at i2
    clear h
    trivial
    first | exact ⟨rfl, List.take_length⟩ | exact ⟨hc2, rfl, rfl, rfl, List.take_length⟩ | exact ⟨rfl, hc2, rfl, rfl, rfl, List.take_length⟩
  | some z =>
    cases k2 : bb.r with
    | none =>
      rw [k1] at i2
      rw [k2] at i3
      clear h
      trivial
      first | exact ⟨rfl, List.take_length⟩ | exact ⟨hc2, rfl, rfl, rfl, List.take_length⟩ | exact ⟨rfl, hc2, rfl, rfl, rfl, List.take_length⟩
    | some z2 => rw [k1, k2] at h; exact absurd h (by rintro (h | h) <;> cases h)
/-- refused: a number that is none -/
theorem no_mv3 (hc : Cln μ) (h1 : kn e = true) (h2 : kn f = true) (h : (cnt e && cnt f) = false) : makeD "Move" 4 G_Move_init__ [bkD t l q r, e, f] μ = .ex "NoChange" [] [] μ := by
  have hc2 : Cln (μ ++ [M.obj "Move" [] []]) := hc.snoc rfl
  have k1 := chk2 (s := .cel μ.length) hc2 h1 h2
  have is1 := is_chk_Move (μ := μ)
  rw [h, if_neg Bool.false_ne_true] at k1
  clear h1 h2 h
  refine makeD_ex hc rfl ?_
  apply eq_ex
  unfold G_Move_init__
  refine wo_fn rfl ?_
  unfold D_Move_init__
  trivial
  first | exact ⟨rfl, List.take_length⟩ | exact ⟨hc2, rfl, rfl, rfl, List.take_length⟩ | exact ⟨rfl, hc2, rfl, rfl, rfl, List.take_length⟩
theorem steps_mv (hc : Cln μ) : G_Move_steps [mvD t l q r x y] μ = .ok (.tup [.int (x - t), .int (y - l)]) μ := by
  apply eq_ok
  unfold G_Move_steps
  refine wo_fn rfl ?_
  unfold D_Move_steps
  trivial
  exact fr_same hc rfl ⟨rfl, rfl⟩
theorem ends_mv (hc : Cln μ) (h1 : 1 ≤ t + a) (h2 : t ≤ q) : G_moved_ends [.int t, .int q, .int a] μ = .ok (.tup [.int (t + a), .int (q + a)]) μ := by
  apply eq_ok
  unfold G_moved_ends
  refine wo_fn rfl ?_
  unfold D_moved_ends
  have n1 : ¬ q + a < 1 := by omega
  have mx : ∀ m : List M, bMax m [.int 1, .int (t + a)] = some (.int (t + a)) := fun m => by
    show some (D.int (if t + a > 1 then t + a else 1)) = _
    by_cases z : t + a > 1
    · rw [if_pos z]
    · rw [if_neg z, show (1 : Int) = t + a by omega]
  clear h1 h2
  trivial
  rw [s_aug (z := q) rfl]
  trivial
  exact fr_same hc rfl ⟨rfl, rfl⟩
theorem moved_mv (hc : Cln μ) (h : Bk t l q r) (h1 : 1 ≤ t + a) (h2 : 1 ≤ l + b) : G_moved_block [bkD t l q r, .int a, .int b] μ = .ok (.lst [bkD (t + a) (l + b) (q + a) (r + b)]) μ := by
  apply eq_ok
  unfold G_moved_block
  refine wo_fn rfl ?_
  unfold D_moved_block
  have e1 := ends_mv hc h1 h.oq
  have e2 := ends_mv hc h2 h.or_
  have oq := h.oq
  have or' := h.or_
  have mk := mk_bk (t := t + a) (l := l + b) (q := q + a) (r := r + b) hc ⟨h1, h2, by omega, by omega⟩
  have i0 : ∀ (z w : Int), opIx μ (.tup [.int z, .int w]) (.int 0) = some (.int z) := fun _ _ => rfl
  have i1 : ∀ (z w : Int), opIx μ (.tup [.int z, .int w]) (.int 1) = some (.int w) := fun _ _ => rfl
  have n1 : ∀ (z w : Int), opIs μ (.tup [.int z, .int w]) .non = some (.bl false) := fun _ _ => rfl
  clear h h1 h2 oq or'
  trivial
  exact fr_same hc rfl ⟨rfl, rfl⟩
theorem target_mv (hc : Cln μ) (h : Bk t l q r) (h1 : 1 ≤ x) (h2 : 1 ≤ y) : G_Move_target [mvD t l q r x y] μ = .ok (bkD x y (q + (x - t)) (r + (y - l))) μ := by
  apply eq_ok
  unfold G_Move_target
  refine wo_fn rfl ?_
  unfold D_Move_target
  have e1 := steps_mv (t := t) (l := l) (q := q) (r := r) (x := x) (y := y) hc
  have e2 := moved_mv (a := x - t) (b := y - l) hc h (by omega) (by omega)
  rw [show t + (x - t) = x by omega, show l + (y - l) = y by omega] at e2
  have i0 : ∀ z : D, opIx μ (.lst [z]) (.int 0) = some z := fun _ => rfl
  clear h h1 h2
  trivial
  exact fr_same hc rfl ⟨rfl, rfl⟩
theorem undo_mv (hc : Cln μ) (h : Bk t l q r) (h1 : 1 ≤ x) (h2 : 1 ≤ y) : G_Move_undoing [mvD t l q r x y] μ = .ok (mvD x y (q + (x - t)) (r + (y - l)) t l) μ := by
  apply eq_ok
  unfold G_Move_undoing
  refine wo_fn rfl ?_
  unfold D_Move_undoing
  have e1 := target_mv hc h h1 h2
  have e2 := mk_mv (t := x) (l := y) (q := q + (x - t)) (r := r + (y - l)) (x := t) (y := l) hc h.ot h.ol
  clear h h1 h2
  trivial
  exact fr_same hc rfl ⟨rfl, rfl⟩
theorem eq_mv (hc : Cln μ) : G_Move_eq__ [mvD t l q r x y, mvD t' l' q' r' x' y'] μ = .ok (.bl (decide (t = t' ∧ l = l' ∧ q = q' ∧ r = r') && decide (x = x' ∧ y = y'))) μ := by
  apply eq_ok
  unfold G_Move_eq__
  refine wo_fn rfl ?_
  unfold D_Move_eq__
  have e1 := eq_bk (t := t) (l := l) (q := q) (r := r) (t' := t') (l' := l') (q' := q') (r' := r') hc
  have e2 := eq2 (μ := μ) (a := x) (m := y) (b := x') (n := y')
  cases k : decide (t = t' ∧ l = l' ∧ q = q' ∧ r = r') with
  | true =>
    rw [k] at e1
    clear k
    trivial
    exact fr_same hc rfl ⟨rfl, rfl⟩
  | false =>
    rw [k] at e1
    clear k
    trivial
    exact fr_same hc rfl ⟨rfl, rfl⟩
/-! the text of a move -/
def mvS (t l q r x y : Int) : Str := "Move(" ++ ("Block(" ++ Str.join ", " [numS t, numS l, numS q, numS r] ++ ")") ++ ", " ++ numS x ++ ", " ++ numS y ++ ")"
theorem repr_eq31 : reprB ⟨t, l, some q, some r⟩ = "Block(" ++ Str.join ", " [numS t, numS l, numS q, numS r] ++ ")" := by
  refine TL.ext_tl ?_
  show TL.tl (reprB ⟨t, l, some q, some r⟩) = TL.tl (("Block(" : Str) ++ (numS t ++ ", " ++ (numS l ++ ", " ++ (numS q ++ ", " ++ numS r))) ++ ")")
  unfold reprB
  simp only [TL.tl_append, List.append_assoc]
  rfl
structure Sm31 (t l q r : Int) : Prop where
  st : t ≤ 10000000000000
  sl : l ≤ 10000000000000
  sq : q ≤ 10000000000000
  sr : r ≤ 10000000000000
theorem Sm31.sm (h : Sm31 t l q r) : Blk.Sm ⟨t, l, some q, some r⟩ := ⟨h.st, h.sl, fun z e => by cases e; exact h.sq, fun z e => by cases e; exact h.sr⟩
theorem join_len (h : Bk t l q r) (hs : Sm31 t l q r) : (Str.join ", " [numS t, numS l, numS q, numS r]).length ≤ 62 := by
  show (numS t ++ ", " ++ (numS l ++ ", " ++ (numS q ++ ", " ++ numS r))).length ≤ 62
  have k2 : (", " : Str).length = 2 := rfl
  have n1 := numS_len h.ot hs.st
  have n2 := numS_len h.ol hs.sl
  have n3 := numS_len (by have := h.ot; have := h.oq; omega) hs.sq
  have n4 := numS_len (by have := h.ol; have := h.or_; omega) hs.sr
  rw [str_len_app, str_len_app, str_len_app, str_len_app, str_len_app, str_len_app, k2]
  omega
theorem repr_mv (hc : Cln μ) (h : Bk t l q r) (hs : Sm31 t l q r) (h1 : Ok31 x) (h2 : Ok31 y) : G_Move_repr__ [mvD t l q r x y] μ = .ok (.str (mvS t l q r x y)) μ := by
  apply eq_ok
  unfold G_Move_repr__
  refine wo_fn rfl ?_
  unfold D_Move_repr__
  have e1 : G_Block_repr__ [bkD t l q r] μ = _ := x_repr hc h.ok hs.sm
  rw [repr_eq31] at e1
  have f1 := numS_fmt h1.1 h1.2
  have f2 := numS_fmt h2.1 h2.2
  have l1 := numS_len h1.1 h1.2
  have l2 := numS_len h2.1 h2.2
  have l3 := join_len h hs
  have L := str_len_app
  have k0 : ("Block(" : Str).length = 6 := rfl
  have k1 : ("Move(" : Str).length = 5 := rfl
  have k2 : (", " : Str).length = 2 := rfl
  have k3 : (")" : Str).length = 1 := rfl
  have k4 : Str.empty.length = 0 := rfl
  have rt : Str.empty ++ ("Move(" : Str) = "Move(" := by with_unfolding_all rfl
  have rt2 : Str.empty ++ "Move(" ++ ("Block(" ++ Str.join ", " [numS t, numS l, numS q, numS r] ++ ")") ++ ", " ++ numS x ++ ", " ++ numS y ++ ")" = mvS t l q r x y := by unfold mvS; rw [rt]
  generalize Str.join ", " [numS t, numS l, numS q, numS r] = J at *
  clear h1 h2 h hs rt
  simp (config := { dsimp := false }) only [e1, f1, f2, DL.start, s_ret, w_fs, w_fsCons, w_fsNil, w_dC, w_fmt, w_fmR, w_ok, w_fld, w_var, o_some, s_str, c_bk, c_mv, f_block, f_row, f_column, List.map_cons, List.map_nil, List.length_cons, List.length_nil, Nat.reduceAdd, Nat.reduceSub, List.replicate_zero, List.append_nil, List.getElem?_cons_zero, Option.join_some, Option.bind_some, L, k0, k1, k2, k3, k4, true_and]
  refine ⟨by omega, by omega, by omega, by omega, by omega, by omega, by omega, by omega, ?_⟩
  rw [rt2]
  refine fr_same hc rfl ?_
  exact ⟨rfl, rfl⟩
theorem isTm (k : Str) : bIsU (.inr k) μ [mvD t l q r x y, .glo k] = some (.bl (isSub (.inr "Move") (.inr k))) := by
  exact if_pos (rfl : clsD (.glo k) = some (.inr k))
theorem kinds_mv (hc : Cln μ) : G_law_kinds [mvD t l q r x y] μ = .ok (.lst [.bl false, .bl false, .bl false, .bl false, .bl true, .bl true]) μ := by
  apply eq_ok
  unfold G_law_kinds
  refine wo_fn rfl ?_
  unfold D_law_kinds
  have t0 := isTm (μ := μ) (t := t) (l := l) (q := q) (r := r) (x := x) (y := y) "PutRows"
  have t1 := isTm (μ := μ) (t := t) (l := l) (q := q) (r := r) (x := x) (y := y) "TakeRows"
  have t2 := isTm (μ := μ) (t := t) (l := l) (q := q) (r := r) (x := x) (y := y) "PutColumns"
  have t3 := isTm (μ := μ) (t := t) (l := l) (q := q) (r := r) (x := x) (y := y) "TakeColumns"
  have t4 := isTm (μ := μ) (t := t) (l := l) (q := q) (r := r) (x := x) (y := y) "Move"
  have t5 := isTm (μ := μ) (t := t) (l := l) (q := q) (r := r) (x := x) (y := y) "Change"
  rw [show isSub (.inr "Move") (.inr "PutRows") = false by with_unfolding_all rfl] at t0
  rw [show isSub (.inr "Move") (.inr "TakeRows") = false by with_unfolding_all rfl] at t1
  rw [show isSub (.inr "Move") (.inr "PutColumns") = false by with_unfolding_all rfl] at t2
  rw [show isSub (.inr "Move") (.inr "TakeColumns") = false by with_unfolding_all rfl] at t3
  rw [show isSub (.inr "Move") (.inr "Move") = true by with_unfolding_all rfl] at t4
  rw [show isSub (.inr "Move") (.inr "Change") = true by with_unfolding_all rfl] at t5
  have p : opAdd μ (.lst [.bl false, .bl false, .bl false]) (.lst [.bl false, .bl true, .bl true]) = some (.lst [.bl false, .bl false, .bl false, .bl false, .bl true, .bl true]) := by with_unfolding_all rfl
  trivial
  exact fr_same hc rfl ⟨rfl, rfl⟩
end
end PG
namespace PG
open PySem PySem.Spec PyProof.Rows L2 DL
local macro_rules | `(tactic| trivial) => `(tactic| simp (config := { dsimp := false }) only [*, eq_self, DL.w_ok, DL.w_ex, DL.w_bind, DL.w_bindS, DL.o_some, DL.w_dC, DL.w_var, DL.w_op, DL.a_nil, DL.a_cons, DL.w_tup, DL.w_lst, DL.w_blt, DL.w_call, DL.w_callN, DL.w_or, DL.w_and, DL.w_not, DL.w_neg, DL.w_if, DL.w_chain, DL.t_tru, DL.t_tst, DL.t_and, DL.t_or, DL.t_not, DL.p_no, DL.p_some, DL.w_slc, DL.w_m1, DL.w_m0, DL.w_fld, DL.s_nil, DL.s_brk, DL.s_cnt, DL.s_retN, DL.s_raise, DL.s_seq, DL.s_ret, DL.s_exp, DL.s_if, DL.s_set, DL.s_new, DL.s_cel, DL.s_retC, DL.s_par, DL.s_asg, DL.e_add, DL.e_sub, DL.e_mulR, DL.e_mulL, DL.e_modS, DL.e_divS, DL.e_pow, DL.e_lt, DL.e_le, DL.e_gt, DL.e_ge, DL.e_is, DL.e_isN, DL.e_eqI, DL.e_neI, DL.e_eqS, DL.e_neS, DL.h_bl, DL.h_int, DL.h_non, DL.b_bl, DL.i_int, DL.s_str, DL.l_lst, DL.q_lst, DL.q_tup, DL.c_lst, DL.c_seq, DL.c_lis, DL.x_cel, DL.x_lst, DL.x_tup, DL.at_nn, DL.ix_in, DL.p_cel, DL.e_mulIf, DL.e_mulM, DL.t_len, DL.t_intB, DL.start, DL.s_setIx, DL.s_for, DL.i_rng, DL.i_rng2, DL.w_lc, DL.r_one, DL.s_app, DL.g_cel, DL.w_dct0, DL.w_meth, DL.isC_obj, DL.w_make, DL.w_pick, DL.pick_cons, DL.pick_nil, DL.w_own, DL.w_ne, DL.w_obS, DL.cls_obj, DL.fld_obj, DL.w_fmt, DL.w_fs, DL.w_fsNil, DL.w_fsCons, DL.w_isT, DL.w_revA, DL.s_try, DL.s_raiseI, DL.s_tryP, DL.s_endX, DL.w_isXT, DL.i_any, DL.ia_tup, DL.ia_str, DL.ia_lst, DL.ia_scr, DL.ia_cel, DL.gl_glo, DL.w_callA, DL.s_tryN, DL.s_never, DL.s_fld, DL.w_listN, DL.g_seq, DL.g_cons, DL.g_nil, DL.g_nm, DL.t_yes, DL.wipe_cons, DL.wipe_nil, DL.nn_non, DL.nn_int, DL.nn_str, DL.nn_bl, DL.nn_tup, DL.nn_lst, DL.w_fmR, DL.w_owns, DL.w_nes, DL.w_obSs, DL.w_meths, List.map_cons, List.map_nil, List.length_cons, List.length_nil, List.cons_append, List.nil_append, List.append_nil, List.drop_zero, List.drop_nil, List.drop_succ_cons, List.getElem?_cons_zero, List.getElem?_cons_succ, List.set_cons_zero, List.set_cons_succ, List.replicate_succ, List.replicate_zero, Option.join_some, Option.map_some, if_true, if_false, Bool.not_true, Bool.not_false, true_and, and_true, Nat.reduceAdd, Nat.reduceSub, Nat.reduceLeDiff, decide_true, decide_false, Bool.false_eq_true, Option.bind_some, Int.reduceToNat, List.getElem?_set_self, Int.reduceLT, Int.reduceLE, Int.reduceNeg, Int.reduceSub, Int.reduceAdd, Int.reduceMul, Int.reducePow, Nat.reduceLT, Int.reduceEq, ite_self, c_bk, kb_top, kb_left, kb_bottom, kb_right, isBk, c_mv, f_block, f_row, f_column, is_undo, isMv, tag_bk, tag_mv, Option.isSome_some, w_lcCons, w_lcNil, strS, Bool.and_self, PG.dfl_Block_init__, PG.dfl_Move_eq__, PG.dfl_Move_init__, PG.dfl_Move_repr__, PG.dfl_Move_undoing, PG.dfl_law_kinds, PG.dfl_law_move_right])
section
variable {μ : List M} {d e f s : D} {a m b n t l q r x y t' l' q' r' x' y' : Int} {c : Str}
def pcD (t l q r : Int) : D := .tup [.int t, .int l, .int q, .int r]
theorem joinL4 {a b c d : Str} (h1 : a.length ≤ 14) (h2 : b.length ≤ 14) (h3 : c.length ≤ 14) (h4 : d.length ≤ 14) : dJoin μ ", " [.lst [.str a, .str b, .str c, .str d]] = some (.str (Str.join ", " [a, b, c, d])) := by
  show (if (a.length + (b.length + (c.length + (d.length + 0)))) + 4 * (", " : Str).length ≤ 100000 then some (D.str (Str.join ", " [a, b, c, d])) else none) = _
  rw [if_pos (by show _ + 4 * 2 ≤ _; omega)]
theorem joinL3 {a b c : Str} (h1 : a.length ≤ 100) (h2 : b.length ≤ 14) (h3 : c.length ≤ 14) : dJoin μ ", " [.lst [.str a, .str b, .str c]] = some (.str (Str.join ", " [a, b, c])) := by
  show (if (a.length + (b.length + (c.length + 0))) + 3 * (", " : Str).length ≤ 100000 then some (D.str (Str.join ", " [a, b, c])) else none) = _
  rw [if_pos (by show _ + 3 * 2 ≤ _; omega)]
theorem mvS_join {J X Y : Str} : ("Move(" : Str) ++ Str.join ", " [("Block(" : Str) ++ J ++ ")", X, Y] ++ ")" = "Move(" ++ ("Block(" ++ J ++ ")") ++ ", " ++ X ++ ", " ++ Y ++ ")" := by
  refine TL.ext_tl ?_
  show TL.tl (("Move(" : Str) ++ (("Block(" : Str) ++ J ++ ")" ++ ", " ++ (X ++ ", " ++ Y)) ++ ")") = _
  simp only [TL.tl_append, List.append_assoc]
structure MvTx (μ : List M) (t l q r x y : Int) (J K : Str) : Prop where
  j4 : dJoin μ ", " [.lst [.str (numS t), .str (numS l), .str (numS q), .str (numS r)]] = some (.str J)
  p1 : opAdd μ (.str "Block(") (.str J) = some (.str ("Block(" ++ J))
  p2 : opAdd μ (.str ("Block(" ++ J)) (.str ")") = some (.str ("Block(" ++ J ++ ")"))
  j3 : dJoin μ ", " [.lst [.str ("Block(" ++ J ++ ")"), .str (numS x), .str (numS y)]] = some (.str K)
  p3 : opAdd μ (.str "Move(") (.str K) = some (.str ("Move(" ++ K))
  p4 : opAdd μ (.str ("Move(" ++ K)) (.str ")") = some (.str (mvS t l q r x y))
theorem mvtx (h : Bk t l q r) (hs : Sm31 t l q r) (h1 : Ok31 x) (h2 : Ok31 y) : ∃ J K, MvTx μ t l q r x y J K := by
  have l1 := numS_len h1.1 h1.2
  have l2 := numS_len h2.1 h2.2
  have l3 := join_len h hs
  have n1 := numS_len h.ot hs.st
  have n2 := numS_len h.ol hs.sl
  have n3 := numS_len (by have := h.ot; have := h.oq; omega) hs.sq
  have n4 := numS_len (by have := h.ol; have := h.or_; omega) hs.sr
  have L := str_len_app
  have k0 : ("Block(" : Str).length = 6 := rfl
  have k1 : ("Move(" : Str).length = 5 := rfl
  have k2 : (", " : Str).length = 2 := rfl
  have k3 : (")" : Str).length = 1 := rfl
  have a1 : (("Block(" : Str) ++ Str.join ", " [numS t, numS l, numS q, numS r] ++ ")").length ≤ 100 := by
    rw [L, L, k0, k3]; omega
  have a2 : (Str.join ", " [("Block(" : Str) ++ Str.join ", " [numS t, numS l, numS q, numS r] ++ ")", numS x, numS y]).length ≤ 200 := by
    show (("Block(" : Str) ++ Str.join ", " [numS t, numS l, numS q, numS r] ++ ")" ++ ", " ++ (numS x ++ ", " ++ numS y)).length ≤ 200
    simp only [L, k0, k2, k3] at a1 ⊢
    omega
  refine ⟨_, _, joinL4 n1 n2 n3 n4, add_s (by rw [k0]; omega), add_s (by rw [L, k0, k3]; omega), joinL3 a1 l1 l2, add_s (by rw [k1]; omega), ?_⟩
  rw [add_s (by rw [L, k1, k3]; omega), mvS_join]
  rfl
theorem x_move_right (hc : Cln μ) (h : Bk t l q r) (hs : Sm31 t l q r) (h1 : Ok31 x) (h2 : Ok31 y) : G_law_move_right [pcD t l q r, .int x, .int y] μ = .ok (.bl true) μ := by
  apply eq_ok
  unfold G_law_move_right
  refine wo_fn rfl ?_
  unfold D_law_move_right
  obtain ⟨J, K, tx⟩ := mvtx (μ := μ) h hs h1 h2
  obtain ⟨j4, p1, p2, j3, p3, p4⟩ := tx
  have i0 : opIx μ (pcD t l q r) (.int 0) = some (.int t) := rfl
  have i1 : opIx μ (pcD t l q r) (.int 1) = some (.int l) := rfl
  have i2 : opIx μ (pcD t l q r) (.int 2) = some (.int q) := rfl
  have i3 : opIx μ (pcD t l q r) (.int 3) = some (.int r) := rfl
  have z0 : ∀ (z w : Int), opIx μ (.tup [.int z, .int w]) (.int 0) = some (.int z) := fun _ _ => rfl
  have z1 : ∀ (z w : Int), opIx μ (.tup [.int z, .int w]) (.int 1) = some (.int w) := fun _ _ => rfl
  have it : itAny μ (pcD t l q r) = some ([.int t, .int l, .int q, .int r], fun _ => True) := rfl
  have oq := h.oq
  have or' := h.or_
  have ot := h.ot
  have ol := h.ol
  have s1 := numS_str (μ := μ) h.ot hs.st
  have s2 := numS_str (μ := μ) h.ol hs.sl
  have s3 := numS_str (μ := μ) (i := q) (by omega) hs.sq
  have s4 := numS_str (μ := μ) (i := r) (by omega) hs.sr
  have s5 := numS_str (μ := μ) h1.1 h1.2
  have s6 := numS_str (μ := μ) h2.1 h2.2
  have mb := mk_bk hc h
  have mb2 := mk_bk (t := x) (l := y) (q := q + (x - t)) (r := r + (y - l)) hc ⟨h1.1, h2.1, by omega, by omega⟩
  have x1 : 1 ≤ x := h1.1
  have y1 : 1 ≤ y := h2.1
  have m1 := mk_mv (t := t) (l := l) (q := q) (r := r) (x := x) (y := y) hc x1 y1
  have m2 := mk_mv (t := t) (l := l) (q := q) (r := r) (x := x + 1) (y := y) hc (by omega) y1
  have m3 := mk_mv (t := t) (l := l) (q := q) (r := r) (x := x) (y := y + 1) hc x1 (by omega)
  have m4 := mk_mv (t := x) (l := y) (q := q + (x - t)) (r := r + (y - l)) (x := x) (y := y) hc x1 y1
  have m5 := mk_mv (t := x) (l := y) (q := q + (x - t)) (r := r + (y - l)) (x := t) (y := l) hc ot ol
  have n4 : opNe μ (.tup [.int t, .int l, .int q, .int r]) (pcD t l q r) = some (.bl false) := ne4
  have n2 := ne2 (μ := μ) (a := x) (m := y)
  have rp := repr_mv hc h hs h1 h2
  have kd := kinds_mv (t := t) (l := l) (q := q) (r := r) (x := x) (y := y) hc
  have kn : opNe μ (.lst [.bl false, .bl false, .bl false, .bl false, .bl true, .bl true]) (.lst [.bl false, .bl false, .bl false, .bl false, .bl true, .bl true]) = some (.bl false) := by with_unfolding_all rfl
  have ud := undo_mv hc h x1 y1
  have q0 := eq_mv (t := x) (l := y) (q := q + (x - t)) (r := r + (y - l)) (x := t) (y := l) (t' := x) (l' := y) (q' := q + (x - t)) (r' := r + (y - l)) (x' := t) (y' := l) hc
  rw [decide_eq_true (show x = x ∧ y = y ∧ q + (x - t) = q + (x - t) ∧ r + (y - l) = r + (y - l) from ⟨rfl, rfl, rfl, rfl⟩), decide_eq_true (show t = t ∧ l = l from ⟨rfl, rfl⟩)] at q0
  have q1 := eq_mv (t := t) (l := l) (q := q) (r := r) (x := x) (y := y) (t' := t) (l' := l) (q' := q) (r' := r) (x' := x) (y' := y) hc
  rw [decide_eq_true (show t = t ∧ l = l ∧ q = q ∧ r = r from ⟨rfl, rfl, rfl, rfl⟩), decide_eq_true (show x = x ∧ y = y from ⟨rfl, rfl⟩)] at q1
  have q2 := eq_mv (t := t) (l := l) (q := q) (r := r) (x := x) (y := y) (t' := t) (l' := l) (q' := q) (r' := r) (x' := x + 1) (y' := y) hc
  rw [decide_eq_false (show ¬ (x = x + 1 ∧ y = y) from fun z => by omega), Bool.and_false] at q2
  have q3 := eq_mv (t := t) (l := l) (q := q) (r := r) (x := x) (y := y) (t' := t) (l' := l) (q' := q) (r' := r) (x' := x) (y' := y + 1) hc
  rw [decide_eq_false (show ¬ (x = x ∧ y = y + 1) from fun z => by omega), Bool.and_false] at q3
  have q4 := eq_mv (t := t) (l := l) (q := q) (r := r) (x := x) (y := y) (t' := x) (l' := y) (q' := q + (x - t)) (r' := r + (y - l)) (x' := x) (y' := y) hc
  have ng := ne2g (μ := μ) (t := x - t) (l := y - l) (t' := 0) (l' := 0)
  cases by0 : decide (x - t = 0 ∧ y - l = 0) with
  | true =>
    rw [by0] at ng
    clear q4 h hs h1 h2 oq or' ot ol x1 y1 by0
    trivial
    exact fr_same hc rfl ⟨rfl, rfl⟩
  | false =>
    rw [by0] at ng
    have by1 := of_decide_eq_false by0
    rw [decide_eq_false (show ¬ (t = x ∧ l = y ∧ q = q + (x - t) ∧ r = r + (y - l)) from fun z => by1 (by omega)), Bool.false_and] at q4
    clear h hs h1 h2 oq or' ot ol x1 y1 by0 by1
    trivial
    exact fr_same hc rfl ⟨rfl, rfl⟩
end
end PG
namespace PG
open PySem PySem.Spec PyProof.Rows L2 DL
local macro_rules | `(tactic| trivial) => `(tactic| simp (config := { dsimp := false }) only [*, eq_self, DL.w_ok, DL.w_ex, DL.w_bind, DL.w_bindS, DL.o_some, DL.w_dC, DL.w_var, DL.w_op, DL.a_nil, DL.a_cons, DL.w_tup, DL.w_lst, DL.w_blt, DL.w_call, DL.w_callN, DL.w_or, DL.w_and, DL.w_not, DL.w_neg, DL.w_if, DL.w_chain, DL.t_tru, DL.t_tst, DL.t_and, DL.t_or, DL.t_not, DL.p_no, DL.p_some, DL.w_slc, DL.w_m1, DL.w_m0, DL.w_fld, DL.s_nil, DL.s_brk, DL.s_cnt, DL.s_retN, DL.s_raise, DL.s_seq, DL.s_ret, DL.s_exp, DL.s_if, DL.s_set, DL.s_new, DL.s_cel, DL.s_retC, DL.s_par, DL.s_asg, DL.e_add, DL.e_sub, DL.e_mulR, DL.e_mulL, DL.e_modS, DL.e_divS, DL.e_pow, DL.e_lt, DL.e_le, DL.e_gt, DL.e_ge, DL.e_is, DL.e_isN, DL.e_eqI, DL.e_neI, DL.e_eqS, DL.e_neS, DL.h_bl, DL.h_int, DL.h_non, DL.b_bl, DL.i_int, DL.s_str, DL.l_lst, DL.q_lst, DL.q_tup, DL.c_lst, DL.c_seq, DL.c_lis, DL.x_cel, DL.x_lst, DL.x_tup, DL.at_nn, DL.ix_in, DL.p_cel, DL.e_mulIf, DL.e_mulM, DL.t_len, DL.t_intB, DL.start, DL.s_setIx, DL.s_for, DL.i_rng, DL.i_rng2, DL.w_lc, DL.r_one, DL.s_app, DL.g_cel, DL.w_dct0, DL.w_meth, DL.isC_obj, DL.w_make, DL.w_pick, DL.pick_cons, DL.pick_nil, DL.w_own, DL.w_ne, DL.w_obS, DL.cls_obj, DL.fld_obj, DL.w_fmt, DL.w_fs, DL.w_fsNil, DL.w_fsCons, DL.w_isT, DL.w_revA, DL.s_try, DL.s_raiseI, DL.s_tryP, DL.s_endX, DL.w_isXT, DL.i_any, DL.ia_tup, DL.ia_str, DL.ia_lst, DL.ia_scr, DL.ia_cel, DL.gl_glo, DL.w_callA, DL.s_tryN, DL.s_never, DL.s_fld, DL.w_listN, DL.g_seq, DL.g_cons, DL.g_nil, DL.g_nm, DL.t_yes, DL.wipe_cons, DL.wipe_nil, DL.nn_non, DL.nn_int, DL.nn_str, DL.nn_bl, DL.nn_tup, DL.nn_lst, DL.w_fmR, DL.w_owns, DL.w_nes, DL.w_obSs, DL.w_meths, List.map_cons, List.map_nil, List.length_cons, List.length_nil, List.cons_append, List.nil_append, List.append_nil, List.drop_zero, List.drop_nil, List.drop_succ_cons, List.getElem?_cons_zero, List.getElem?_cons_succ, List.set_cons_zero, List.set_cons_succ, List.replicate_succ, List.replicate_zero, Option.join_some, Option.map_some, if_true, if_false, Bool.not_true, Bool.not_false, true_and, and_true, Nat.reduceAdd, Nat.reduceSub, Nat.reduceLeDiff, decide_true, decide_false, Bool.false_eq_true, Option.bind_some, Int.reduceToNat, List.getElem?_set_self, Int.reduceLT, Int.reduceLE, Int.reduceNeg, Int.reduceSub, Int.reduceAdd, Int.reduceMul, Int.reducePow, Nat.reduceLT, Int.reduceEq, ite_self, PG.dfl_law_mixed, PG.dfl_law_next, PG.dfl_law_number_k31, PG.dfl_law_source])
/-! draws off a number: `_law_source`, `_law_next` -/
theorem source_k {μ : List M} {c : Int} {Q : List D → List M → Prop} {X : XP} (hc : Cln μ) (k : Q [.int c, .int c, .int 0] μ) : WO (G_law_source [.int c] μ) Q X ⟨⟩ := by
  refine WO.use (Q' := fun l m => l = [.int c, .int c, .int 0] ∧ m = μ) (k' := ⟨⟩) ?_ (by rintro l m ⟨rfl, rfl⟩; exact k)
  unfold G_law_source
  refine wo_fnN rfl ?_
  unfold D_law_source
  trivial
  exact ⟨_, _, rfl, Nat.le_refl _, List.getElem?_concat_length, rfl, hc.snoc rfl, rfl, List.take_left⟩
theorem x_mixed {μ : List M} {a b : Int} (hc : Cln μ) : ∃ r, G_law_mixed [.int a, .int b] μ = .ok (.int r) μ := by
  suffices h : WO (G_law_mixed [.int a, .int b] μ) (fun x m => ∃ r, x = .int r ∧ m = μ) xNo ⟨⟩ by
    obtain ⟨x, m, e, r, rfl, rfl⟩ := h.ex_
    exact ⟨r, e⟩
  unfold G_law_mixed
  refine wo_fn rfl ?_
  unfold D_law_mixed
  trivial
  exact ⟨rfl, hc, _, rfl, List.take_length⟩
theorem next_ok {μ : List M} {i : Nat} {n : Int} (hc : Cln μ) (hw : Well μ i) (hn : 0 < n) (hn2 : n < 9223372036854775808) : WO (G_law_next [.cel i, .int n] μ) (fun x m => ∃ r a b c : Int, x = .int r ∧ 0 ≤ r ∧ r < n ∧ m = μ.set i (.lst [.int a, .int b, .int c])) xNo ⟨⟩ := by
  obtain ⟨a, b, c, hw⟩ := hw
  have hi : i < μ.length := (List.getElem?_eq_some_iff.mp hw).1
  obtain ⟨r, hr⟩ := x_mixed (μ := μ.set i (.lst [.int a, .int b, .int (c + 1)])) (a := b) (b := c + 1) (hc.set rfl)
  unfold G_law_next
  refine wo_fn rfl ?_
  unfold D_law_next
  trivial
  by_cases h : 1000000000000000000 ≤ a
  · trivial
    exact ⟨rfl, hc.set rfl, _, _, _, _, rfl, Int.emod_nonneg _ (by omega), Int.emod_lt_of_pos _ hn, take_set⟩
  · trivial
    exact ⟨rfl, hc.set rfl, _, _, _, _, rfl, Int.emod_nonneg _ (by omega), Int.emod_lt_of_pos _ hn, take_set⟩
section
variable {μ m m' : List M} {i : Nat}
theorem next_k {n : Int} {Q : D → List M → Prop} {X : XP} (h : Dr μ i m) (hn : 0 < n) (hn2 : n < 9223372036854775808) (k : ∀ r m', 0 ≤ r → r < n → Dr μ i m' → Q (.int r) m') : WO (G_law_next [.cel i, .int n] m) Q X ⟨⟩ := by
  refine (next_ok h.cln h.well hn hn2).use ?_
  rintro x m' ⟨r, a, b, c, rfl, h0, h1, rfl⟩
  exact k r _ h0 h1 h.step
theorem number_k31 {Q : D → List M → Prop} {X : XP} (h : Dr μ i m) (k : ∀ r m', 1 ≤ r → r ≤ 100000000000 → Dr μ i m' → Q (.int r) m') : WO (G_law_number_k31 [.cel i] m) Q X ⟨⟩ := by
  refine WO.use (Q' := fun x m' => ∃ r, x = .int r ∧ 1 ≤ r ∧ r ≤ 100000000000 ∧ Dr μ i m') (k' := ⟨⟩) ?_ (by rintro x m' ⟨r, rfl, h1, h2, h3⟩; exact k r m' h1 h2 h3)
  unfold G_law_number_k31
  refine wo_fn rfl ?_
  unfold D_law_number_k31
  trivial
  refine next_k h.self (by decide) (by decide) fun r m1 l0 l1 d1 => ?_
  have rr : r = 0 ∨ r = 1 ∨ r = 2 := by omega
  have fin : ∀ (z : Int) (m2 : List M), 0 ≤ z → z < 100000000000 → Dr m i m2 → FR m.length m2 (.int (1 + z)) (fun x m' => ∃ r, x = .int r ∧ 1 ≤ r ∧ r ≤ 100000000000 ∧ Dr μ i m') := fun z m2 h0 h1 d => d.fr rfl ⟨_, rfl, by omega, by omega, h.trans d⟩
  clear l0 l1
  rcases rr with rfl | rfl | rfl
  all_goals
    trivial
    refine next_k d1 (by decide) (by decide) fun z m2 z0 z1 d2 => ?_
    exact fin z m2 z0 (by omega) d2
end
end PG
namespace PG
open PySem PySem.Spec PyProof.Rows L2 DL
local macro_rules | `(tactic| trivial) => `(tactic| simp (config := { dsimp := false }) only [*, eq_self, DL.w_ok, DL.w_ex, DL.w_bind, DL.w_bindS, DL.o_some, DL.w_dC, DL.w_var, DL.w_op, DL.a_nil, DL.a_cons, DL.w_tup, DL.w_lst, DL.w_blt, DL.w_call, DL.w_callN, DL.w_or, DL.w_and, DL.w_not, DL.w_neg, DL.w_if, DL.w_chain, DL.t_tru, DL.t_tst, DL.t_and, DL.t_or, DL.t_not, DL.p_no, DL.p_some, DL.w_slc, DL.w_m1, DL.w_m0, DL.w_fld, DL.s_nil, DL.s_brk, DL.s_cnt, DL.s_retN, DL.s_raise, DL.s_seq, DL.s_ret, DL.s_exp, DL.s_if, DL.s_set, DL.s_new, DL.s_cel, DL.s_retC, DL.s_par, DL.s_asg, DL.e_add, DL.e_sub, DL.e_mulR, DL.e_mulL, DL.e_modS, DL.e_divS, DL.e_pow, DL.e_lt, DL.e_le, DL.e_gt, DL.e_ge, DL.e_is, DL.e_isN, DL.e_eqI, DL.e_neI, DL.e_eqS, DL.e_neS, DL.h_bl, DL.h_int, DL.h_non, DL.b_bl, DL.i_int, DL.s_str, DL.l_lst, DL.q_lst, DL.q_tup, DL.c_lst, DL.c_seq, DL.c_lis, DL.x_cel, DL.x_lst, DL.x_tup, DL.at_nn, DL.ix_in, DL.p_cel, DL.e_mulIf, DL.e_mulM, DL.t_len, DL.t_intB, DL.start, DL.s_setIx, DL.s_for, DL.i_rng, DL.i_rng2, DL.w_lc, DL.r_one, DL.s_app, DL.g_cel, DL.w_dct0, DL.w_meth, DL.isC_obj, DL.w_make, DL.w_pick, DL.pick_cons, DL.pick_nil, DL.w_own, DL.w_ne, DL.w_obS, DL.cls_obj, DL.fld_obj, DL.w_fmt, DL.w_fs, DL.w_fsNil, DL.w_fsCons, DL.w_isT, DL.w_revA, DL.s_try, DL.s_raiseI, DL.s_tryP, DL.s_endX, DL.w_isXT, DL.i_any, DL.ia_tup, DL.ia_str, DL.ia_lst, DL.ia_scr, DL.ia_cel, DL.gl_glo, DL.w_callA, DL.s_tryN, DL.s_never, DL.s_fld, DL.w_listN, DL.g_seq, DL.g_cons, DL.g_nil, DL.g_nm, DL.t_yes, DL.wipe_cons, DL.wipe_nil, DL.nn_non, DL.nn_int, DL.nn_str, DL.nn_bl, DL.nn_tup, DL.nn_lst, DL.w_fmR, DL.w_owns, DL.w_nes, DL.w_obSs, DL.w_meths, List.map_cons, List.map_nil, List.length_cons, List.length_nil, List.cons_append, List.nil_append, List.append_nil, List.drop_zero, List.drop_nil, List.drop_succ_cons, List.getElem?_cons_zero, List.getElem?_cons_succ, List.set_cons_zero, List.set_cons_succ, List.replicate_succ, List.replicate_zero, Option.join_some, Option.map_some, if_true, if_false, Bool.not_true, Bool.not_false, true_and, and_true, Nat.reduceAdd, Nat.reduceSub, Nat.reduceLeDiff, decide_true, decide_false, Bool.false_eq_true, Option.bind_some, Int.reduceToNat, List.getElem?_set_self, Int.reduceLT, Int.reduceLE, Int.reduceNeg, Int.reduceSub, Int.reduceAdd, Int.reduceMul, Int.reducePow, Nat.reduceLT, Int.reduceEq, ite_self, PG.dfl_Change_checked, PG.dfl_Move_init__, PG.dfl_law_lines, PG.dfl_law_refused_k31])
section
variable {μ m : List M} {d e f s : D} {a b n t l q r x y : Int} {ns : List Int}
theorem cut31 {hi : Option Int} (hn : ns.length ≤ 63) : ∃ as : List Int, slc m none hi (.scr ns) = some (.lst (as.map D.int)) ∧ as.length ≤ 63 := by
  refine ⟨(ns.drop (HT.sIx ns.length 0 none)).take (HT.sIx ns.length ns.length hi - HT.sIx ns.length 0 none), ?_, ?_⟩
  · show some (D.lst (cutL (ns.map D.int) none hi)) = _
    unfold cutL
    rw [List.map_take, List.map_drop, List.length_map]
  · rw [List.length_take, List.length_drop]
    omega
theorem add31 {as bs : List Int} (h : as.length + bs.length ≤ 1000) : opAdd m (.lst (as.map D.int)) (.lst (bs.map D.int)) = some (.lst ((as ++ bs).map D.int)) := by
  rw [e_addL l_lst l_lst, if_pos (by rw [List.length_map, List.length_map]; omega), List.map_append]
theorem bx0 : bIsX (["NoChange"] : List Str) (.inr "NoChange") μ [.exc "NoChange" [] [], .glo "NoChange"] = some (.bl true) := by with_unfolding_all rfl
theorem bx1 : bIsX (["NoChange"] : List Str) (.inr "NoNumber") μ [.exc "NoChange" [] [], .glo "NoNumber"] = some (.bl false) := by with_unfolding_all rfl
theorem bx2 : bIsX (["NoChange"] : List Str) (.inr "NoBlock") μ [.exc "NoChange" [] [], .glo "NoBlock"] = some (.bl false) := by with_unfolding_all rfl
theorem bx3 : bIsX (["NoChange"] : List Str) (.inr "NoCell") μ [.exc "NoChange" [] [], .glo "NoCell"] = some (.bl false) := by with_unfolding_all rfl
theorem eqX : opEq μ (.lst [.bl true, .bl false, .bl false, .bl false]) (.lst [.bl true, .bl false, .bl false, .bl false]) = some (.bl true) := by with_unfolding_all rfl
theorem cx31 : (["NoChange"] : List Str).contains "NoChange" = true := by with_unfolding_all rfl
theorem ex31 : exSub "NoChange" (.inr "CellError") = true := by with_unfolding_all rfl
end
local macro_rules | `(tactic| trivial) => `(tactic| simp (config := { dsimp := false }) only [*, eq_self, DL.w_ok, DL.w_ex, DL.w_bind, DL.w_bindS, DL.o_some, DL.w_dC, DL.w_var, DL.w_op, DL.a_nil, DL.a_cons, DL.w_tup, DL.w_lst, DL.w_blt, DL.w_call, DL.w_callN, DL.w_or, DL.w_and, DL.w_not, DL.w_neg, DL.w_if, DL.w_chain, DL.t_tru, DL.t_tst, DL.t_and, DL.t_or, DL.t_not, DL.p_no, DL.p_some, DL.w_slc, DL.w_m1, DL.w_m0, DL.w_fld, DL.s_nil, DL.s_brk, DL.s_cnt, DL.s_retN, DL.s_raise, DL.s_seq, DL.s_ret, DL.s_exp, DL.s_if, DL.s_set, DL.s_new, DL.s_cel, DL.s_retC, DL.s_par, DL.s_asg, DL.e_add, DL.e_sub, DL.e_mulR, DL.e_mulL, DL.e_modS, DL.e_divS, DL.e_pow, DL.e_lt, DL.e_le, DL.e_gt, DL.e_ge, DL.e_is, DL.e_isN, DL.e_eqI, DL.e_neI, DL.e_eqS, DL.e_neS, DL.h_bl, DL.h_int, DL.h_non, DL.b_bl, DL.i_int, DL.s_str, DL.l_lst, DL.q_lst, DL.q_tup, DL.c_lst, DL.c_seq, DL.c_lis, DL.x_cel, DL.x_lst, DL.x_tup, DL.at_nn, DL.ix_in, DL.p_cel, DL.e_mulIf, DL.e_mulM, DL.t_len, DL.t_intB, DL.start, DL.s_setIx, DL.s_for, DL.i_rng, DL.i_rng2, DL.w_lc, DL.r_one, DL.s_app, DL.g_cel, DL.w_dct0, DL.w_meth, DL.isC_obj, DL.w_make, DL.w_pick, DL.pick_cons, DL.pick_nil, DL.w_own, DL.w_ne, DL.w_obS, DL.cls_obj, DL.fld_obj, DL.w_fmt, DL.w_fs, DL.w_fsNil, DL.w_fsCons, DL.w_isT, DL.w_revA, DL.s_try, DL.s_raiseI, DL.s_tryP, DL.s_endX, DL.w_isXT, DL.i_any, DL.ia_tup, DL.ia_str, DL.ia_lst, DL.ia_scr, DL.ia_cel, DL.gl_glo, DL.w_callA, DL.s_tryN, DL.s_never, DL.s_fld, DL.w_listN, DL.g_seq, DL.g_cons, DL.g_nil, DL.g_nm, DL.t_yes, DL.wipe_cons, DL.wipe_nil, DL.nn_non, DL.nn_int, DL.nn_str, DL.nn_bl, DL.nn_tup, DL.nn_lst, DL.w_fmR, DL.w_owns, DL.w_nes, DL.w_obSs, DL.w_meths, List.map_cons, List.map_nil, List.length_cons, List.length_nil, List.cons_append, List.nil_append, List.append_nil, List.drop_zero, List.drop_nil, List.drop_succ_cons, List.getElem?_cons_zero, List.getElem?_cons_succ, List.set_cons_zero, List.set_cons_succ, List.replicate_succ, List.replicate_zero, Option.join_some, Option.map_some, if_true, if_false, Bool.not_true, Bool.not_false, true_and, and_true, Nat.reduceAdd, Nat.reduceSub, Nat.reduceLeDiff, decide_true, decide_false, Bool.false_eq_true, Option.bind_some, Int.reduceToNat, List.getElem?_set_self, Int.reduceLT, Int.reduceLE, Int.reduceNeg, Int.reduceSub, Int.reduceAdd, Int.reduceMul, Int.reducePow, Nat.reduceLT, Int.reduceEq, ite_self, bx0, bx1, bx2, bx3, eqX, cx31, ex31, PG.dfl_Change_checked, PG.dfl_Move_init__, PG.dfl_law_lines, PG.dfl_law_refused_k31])
section
variable {μ m : List M} {d e f s : D} {a b n t l q r x y : Int} {ns : List Int}
theorem x_refA {w : Int} (hc : Cln μ) (w0 : 0 ≤ w) (w1 : w < 4) (k1 : kn d = true) (k2 : kn e = true) (bad : (cnt d && cnt e) = false) : G_law_refused_k31 [.int w, d, e, f] μ = .ok (.bl true) μ := by
  apply eq_ok
  unfold G_law_refused_k31
  refine wo_fn rfl ?_
  unfold D_law_refused_k31
  have e1 := x_lines hc w0 w1 k1 k2
  rw [bad, if_neg Bool.false_ne_true] at e1
  have nr : (noX (.bl true) && μ.all noXM) = true := by rw [cln_noX hc]; rfl
  clear w0 k1 k2 bad
  trivial
  exact fr_same hc rfl ⟨rfl, rfl⟩
theorem x_refM (hc : Cln μ) (h : makeD "Move" 4 G_Move_init__ [d, e, f] μ = .ex "NoChange" [] [] μ) : G_law_refused_k31 [.int 4, d, e, f] μ = .ok (.bl true) μ := by
  apply eq_ok
  unfold G_law_refused_k31
  refine wo_fn rfl ?_
  unfold D_law_refused_k31
  have nr : (noX (.bl true) && μ.all noXM) = true := by rw [cln_noX hc]; rfl
  trivial
  exact fr_same hc rfl ⟨rfl, rfl⟩
end
/-- what is no number from 1 on -/
structure Odd (v : D) : Prop where
  kn : PG.kn v = true
  no : cnt v = false
section
variable {μ m : List M} {d e f s : D} {a b n t l q r x y : Int} {ns : List Int}
theorem odd_ix {k : Int} (ha : 1 ≤ a) (h0 : 0 ≤ k) (h1 : k < 9) : ∃ v, Odd v ∧ opIx m (.lst [.int 0, .int (-1), .non, .bl true, .str "1", .lst [.int a], .tup [.int a], .int (0 - a), .bl false]) (.int k) = some v := by
  have hk : k = 0 ∨ k = 1 ∨ k = 2 ∨ k = 3 ∨ k = 4 ∨ k = 5 ∨ k = 6 ∨ k = 7 ∨ k = 8 := by omega
  rcases hk with rfl | rfl | rfl | rfl | rfl | rfl | rfl | rfl | rfl
  · exact ⟨_, ⟨rfl, rfl⟩, rfl⟩
  · exact ⟨_, ⟨rfl, rfl⟩, rfl⟩
  · exact ⟨_, ⟨rfl, rfl⟩, rfl⟩
  · exact ⟨_, ⟨rfl, rfl⟩, rfl⟩
  · exact ⟨_, ⟨rfl, rfl⟩, rfl⟩
  · exact ⟨_, ⟨rfl, rfl⟩, rfl⟩
  · exact ⟨_, ⟨rfl, rfl⟩, rfl⟩
  · exact ⟨.int (0 - a), ⟨rfl, decide_eq_false (by omega)⟩, rfl⟩
  · exact ⟨_, ⟨rfl, rfl⟩, rfl⟩
theorem bad_ix {k : Int} {v w : D} (h0 : 0 ≤ k) (h1 : k < 7) : ∃ z, opIx m (.lst [blkD ⟨1, 1, none, none⟩, blkD ⟨2, 2, some 3, none⟩, blkD ⟨2, 2, none, some 3⟩, .non, .str "B2", .tup [.int 2, .int 2, .int 3, .int 3], .lst [bkD 1 1 1 1]]) (.int k) = some z ∧ ∀ μ e f, Cln μ → makeD "Move" 4 G_Move_init__ [z, e, f] μ = .ex "NoChange" [] [] μ := by
  have hk : k = 0 ∨ k = 1 ∨ k = 2 ∨ k = 3 ∨ k = 4 ∨ k = 5 ∨ k = 6 := by omega
  rcases hk with rfl | rfl | rfl | rfl | rfl | rfl | rfl
  · exact ⟨_, rfl, fun μ e f hc => no_mv2 hc (.inl rfl)⟩
  · exact ⟨_, rfl, fun μ e f hc => no_mv2 hc (.inr rfl)⟩
  · exact ⟨_, rfl, fun μ e f hc => no_mv2 hc (.inl rfl)⟩
  · exact ⟨_, rfl, fun μ e f hc => no_mv1 hc fun m => by with_unfolding_all rfl⟩
  · exact ⟨_, rfl, fun μ e f hc => no_mv1 hc fun m => by with_unfolding_all rfl⟩
  · exact ⟨_, rfl, fun μ e f hc => no_mv1 hc fun m => by with_unfolding_all rfl⟩
  · exact ⟨_, rfl, fun μ e f hc => no_mv1 hc fun m => by with_unfolding_all rfl⟩
end
end PG
namespace PG
open PySem PySem.Spec PyProof.Rows L2 DL
/-- a fact kept out of simp's sight -/
structure Hide31 (p : Prop) : Prop where
  out : p
def Inv31 (ns : List Int) (xs : List D) (e : En) (m : List M) : Prop := ∃ (ks : List Int) (o1 o2 o3 o4 o5 o6 o7 o8 o9 o10 : Option D), xs = ks.map D.int ∧ e = [some (.scr ns), o1, o2, o3, o4, o5, o6, o7, o8, o9, o10] ∧ Cln m
local macro_rules | `(tactic| trivial) => `(tactic| simp (config := { dsimp := false }) only [*, eq_self, DL.w_ok, DL.w_ex, DL.w_bind, DL.w_bindS, DL.o_some, DL.w_dC, DL.w_var, DL.w_op, DL.a_nil, DL.a_cons, DL.w_tup, DL.w_lst, DL.w_blt, DL.w_call, DL.w_callN, DL.w_or, DL.w_and, DL.w_not, DL.w_neg, DL.w_if, DL.w_chain, DL.t_tru, DL.t_tst, DL.t_and, DL.t_or, DL.t_not, DL.p_no, DL.p_some, DL.w_slc, DL.w_m1, DL.w_m0, DL.w_fld, DL.s_nil, DL.s_brk, DL.s_cnt, DL.s_retN, DL.s_raise, DL.s_seq, DL.s_ret, DL.s_exp, DL.s_if, DL.s_set, DL.s_new, DL.s_cel, DL.s_retC, DL.s_par, DL.s_asg, DL.e_add, DL.e_sub, DL.e_mulR, DL.e_mulL, DL.e_modS, DL.e_divS, DL.e_pow, DL.e_lt, DL.e_le, DL.e_gt, DL.e_ge, DL.e_is, DL.e_isN, DL.e_eqI, DL.e_neI, DL.e_eqS, DL.e_neS, DL.h_bl, DL.h_int, DL.h_non, DL.b_bl, DL.i_int, DL.s_str, DL.l_lst, DL.q_lst, DL.q_tup, DL.c_lst, DL.c_seq, DL.c_lis, DL.x_cel, DL.x_lst, DL.x_tup, DL.at_nn, DL.ix_in, DL.p_cel, DL.e_mulIf, DL.e_mulM, DL.t_len, DL.t_intB, DL.start, DL.s_setIx, DL.s_for, DL.i_rng, DL.i_rng2, DL.w_lc, DL.r_one, DL.s_app, DL.g_cel, DL.w_dct0, DL.w_meth, DL.isC_obj, DL.w_make, DL.w_pick, DL.pick_cons, DL.pick_nil, DL.w_own, DL.w_ne, DL.w_obS, DL.cls_obj, DL.fld_obj, DL.w_fmt, DL.w_fs, DL.w_fsNil, DL.w_fsCons, DL.w_isT, DL.w_revA, DL.s_try, DL.s_raiseI, DL.s_tryP, DL.s_endX, DL.w_isXT, DL.i_any, DL.ia_tup, DL.ia_str, DL.ia_lst, DL.ia_scr, DL.ia_cel, DL.gl_glo, DL.w_callA, DL.s_tryN, DL.s_never, DL.s_fld, DL.w_listN, DL.g_seq, DL.g_cons, DL.g_nil, DL.g_nm, DL.t_yes, DL.wipe_cons, DL.wipe_nil, DL.nn_non, DL.nn_int, DL.nn_str, DL.nn_bl, DL.nn_tup, DL.nn_lst, DL.w_fmR, DL.w_owns, DL.w_nes, DL.w_obSs, DL.w_meths, List.map_cons, List.map_nil, List.length_cons, List.length_nil, List.cons_append, List.nil_append, List.append_nil, List.drop_zero, List.drop_nil, List.drop_succ_cons, List.getElem?_cons_zero, List.getElem?_cons_succ, List.set_cons_zero, List.set_cons_succ, List.replicate_succ, List.replicate_zero, Option.join_some, Option.map_some, if_true, if_false, Bool.not_true, Bool.not_false, true_and, and_true, Nat.reduceAdd, Nat.reduceSub, Nat.reduceLeDiff, decide_true, decide_false, Bool.false_eq_true, Option.bind_some, Int.reduceToNat, List.getElem?_set_self, Int.reduceLT, Int.reduceLE, Int.reduceNeg, Int.reduceSub, Int.reduceAdd, Int.reduceMul, Int.reducePow, Nat.reduceLT, Int.reduceEq, ite_self, w_lcCons, w_lcNil, PG.dfl_Block_init__, PG.dfl_Change_checked, PG.dfl_Move_eq__, PG.dfl_Move_init__, PG.dfl_Move_repr__, PG.dfl_Move_undoing, PG.dfl_PutRows_eq__, PG.dfl_PutRows_init__, PG.dfl_PutRows_repr__, PG.dfl_is_count, PG.dfl_is_end, PG.dfl_law_k31, PG.dfl_law_kinds, PG.dfl_law_lines_right, PG.dfl_law_move_right, PG.dfl_law_next, PG.dfl_law_number_k31, PG.dfl_law_refused_k31, PG.dfl_law_source])
section
variable {μ m : List M} {ns : List Int}
theorem law_main31 (hn : ns.length ≤ 63) : ∃ μ, G_law_k31 [.scr ns] [] = .ok (.bl true) μ := by
  have hm : WO (G_law_k31 [.scr ns] []) (fun x m => x = .bl true) xNo ⟨⟩ := by
    unfold G_law_k31
    refine wo_fn rfl ?_
    unfold D_law_k31
    obtain ⟨as, s1, s2⟩ := cut31 (m := []) (hi := some 12) hn
    have s3 : opAdd [] (.lst (as.map D.int)) (.lst [.int 0, .int 1]) = some (.lst ((as ++ [0, 1]).map D.int)) := add31 (m := []) (as := as) (bs := [0, 1]) (by show _ + 2 ≤ _; omega)
    trivial
    clear s1 s2 s3
    refine s_forGo (Inv31 ns) ?_ ?_ _ _ _ ⟨as ++ [0, 1], _, _, _, _, _, _, _, _, _, _, rfl, rfl, fun q hq => absurd hq List.not_mem_nil⟩
    · rintro e m ⟨ks, o1, o2, o3, o4, o5, o6, o7, o8, o9, o10, -, rfl, hc⟩
      refine ⟨⟨⟩, ?_⟩
      trivial
      exact ⟨rfl, hc, rfl⟩
    · rintro x xs e m ⟨ks, o1, o2, o3, o4, o5, o6, o7, o8, o9, o10, hx, rfl, hc⟩
      refine ⟨⟨⟩, ?_⟩
      show WS _ _ _ _ _ _ ⟨⟩
      cases ks with
      | nil => cases hx
      | cons k ks =>
        rw [List.map_cons] at hx
        cases hx
        trivial
        refine source_k hc ?_
        trivial
        refine number_k31 (Dr.new hc) fun a m1 a0 a1 d1 => ?_
        trivial
        refine number_k31 d1 fun b m2 b0 b1 d2 => ?_
        trivial
        refine next_k d2 (by decide) (by decide) fun w m3 w0 w1 d3 => ?_
        have r1 := x_lines_right d3.cln w0 w1 (a := a) (m := b) ⟨a0, by omega⟩ ⟨b0, by omega⟩
        have H := Hide31.mk (⟨a0, a1, b0, b1, w0, w1⟩ : 1 ≤ a ∧ a ≤ 100000000000 ∧ 1 ≤ b ∧ b ≤ 100000000000 ∧ 0 ≤ w ∧ w < 4)
        clear a0 a1 b0 b1 w0 w1 d1 d2
        trivial
        refine next_k d3 (by decide) (by decide) fun q m4 q0 q1 d4 => ?_
        trivial
        refine number_k31 d4 fun r m5 r0 r1' d5 => ?_
        trivial
        refine number_k31 d5 fun x m6 x0 x1 d6 => ?_
        trivial
        refine number_k31 d6 fun y m7 y0 y1 d7 => ?_
        obtain ⟨a0, a1, b0, b1, w0, w1⟩ := H.out
        have r2 : G_law_move_right [.tup [.int a, .int b, .int (a + q), .int (b + r)], .int x, .int y] m7 = .ok (.bl true) m7 := x_move_right d7.cln ⟨a0, b0, by omega, by omega⟩ ⟨by omega, by omega, by omega, by omega⟩ ⟨x0, by omega⟩ ⟨y0, by omega⟩
        have ng : opNeg m7 (.int 1) = some (.int (-1)) := rfl
        clear r1 a0 a1 b0 b1 w0 w1 d3 d4 d5 d6 q0 q1 r0 r1' x0 x1 y0 y1
        trivial
        refine next_k d7 (by decide) (by decide) fun o m8 p0 p1 d8 => ?_
        obtain ⟨a0, a1, b0, b1, w0, w1⟩ := H.out
        have hc8 := d8.cln
        obtain ⟨v, hv, ix⟩ := odd_ix (m := m8) (a := a) a0 p0 p1
        have mk23 : makeD "Block" 5 G_Block_init__ [.int 2, .int 2, .int 3, .int 3] m8 = .ok (bkD 2 2 3 3) m8 := mk_bk hc8 ⟨by decide, by decide, by decide, by decide⟩
        have f1 := x_refA (d := v) (e := .int b) (f := .non) hc8 w0 w1 hv.kn rfl (by rw [hv.no]; rfl)
        have f2 := x_refA (d := .int a) (e := v) (f := .non) hc8 w0 w1 rfl hv.kn (by rw [hv.no, Bool.and_false])
        have f3 := x_refM hc8 (no_mv3 (t := 2) (l := 2) (q := 3) (r := 3) (e := v) (f := .int a) hc8 hv.kn rfl (by rw [hv.no]; rfl))
        have k0 : makeD "Block" 5 G_Block_init__ [.int 1, .int 1, .non, .non] m8 = .ok (blkD ⟨1, 1, none, none⟩) m8 := x_make (b := ⟨1, 1, none, none⟩) hc8 ⟨by decide, by decide, rfl, rfl⟩
        have k1 : makeD "Block" 5 G_Block_init__ [.int 2, .int 2, .int 3, .non] m8 = .ok (blkD ⟨2, 2, some 3, none⟩) m8 := x_make (b := ⟨2, 2, some 3, none⟩) hc8 ⟨by decide, by decide, rfl, rfl⟩
        have k2 : makeD "Block" 5 G_Block_init__ [.int 2, .int 2, .non, .int 3] m8 = .ok (blkD ⟨2, 2, none, some 3⟩) m8 := x_make (b := ⟨2, 2, none, some 3⟩) hc8 ⟨by decide, by decide, rfl, rfl⟩
        have k3 : makeD "Block" 5 G_Block_init__ [.int 1, .int 1, .int 1, .int 1] m8 = .ok (bkD 1 1 1 1) m8 := mk_bk hc8 ⟨by decide, by decide, by decide, by decide⟩
        have hv := Hide31.mk hv
        clear r2 p0 p1 a0 a1 b0 b1 w0 w1 d7 hc8
        trivial
        refine next_k d8 (by decide) (by decide) fun z m9 z0 z1 d9 => ?_
        obtain ⟨a0, a1, b0, b1, w0, w1⟩ := H.out
        have hc9 := d9.cln
        obtain ⟨bd, ix2, hb⟩ := bad_ix (m := m9) (v := v) (w := v) z0 z1
        have f4 := x_refM hc9 (hb m9 (.int a) (.int b) hc9)
        have mk22 : makeD "Block" 5 G_Block_init__ [.int 2, .int 2, .int 2, .int 2] m9 = .ok (bkD 2 2 2 2) m9 := mk_bk hc9 ⟨by decide, by decide, by decide, by decide⟩
        have f5 := x_refM hc9 (no_mv3 (t := 2) (l := 2) (q := 2) (r := 2) (e := .int a) (f := v) hc9 rfl hv.out.kn (by rw [hv.out.no, Bool.and_false]))
        have pr : makeD "PutRows" 3 G_PutRows_init__ [.int a, .int b] m9 = .ok (chD "PutRows" a b) m9 := by
          rw [init_PutRows hc9 rfl rfl, if_pos (by show (decide (1 ≤ a) && decide (1 ≤ b)) = true; rw [decide_eq_true a0, decide_eq_true b0]; rfl)]
          rfl
        have rp := repr_PutRows hc9 (a := a) (m := b) ⟨a0, by omega⟩ ⟨b0, by omega⟩
        have cp : clsAt m9 (chD "PutRows" a b) = some ("PutRows" : Str) := rfl
        have k9 : makeD "Block" 5 G_Block_init__ [.int 1, .int 1, .non, .non] m9 = .ok (blkD ⟨1, 1, none, none⟩) m9 := x_make (b := ⟨1, 1, none, none⟩) hc9 ⟨by decide, by decide, rfl, rfl⟩
        have n0 := eqN_PutRows (a := a) (m := b) (d := .non) hc9 (by with_unfolding_all rfl)
        have n1 := eqN_PutRows (a := a) (m := b) (d := .str (chS "PutRows" a b)) hc9 (by with_unfolding_all rfl)
        have n2 := eqN_PutRows (a := a) (m := b) (d := .tup [.int a, .int b]) hc9 (by with_unfolding_all rfl)
        have n3 := eqN_PutRows (a := a) (m := b) (d := .int a) hc9 (by with_unfolding_all rfl)
        have n4 := eqN_PutRows (a := a) (m := b) (d := blkD ⟨1, 1, none, none⟩) hc9 (by with_unfolding_all rfl)
        have t0 : (tagOf m9 .non).isSome = true := rfl
        have t1 : (tagOf m9 (.str (chS "PutRows" a b))).isSome = true := rfl
        have t2 : (tagOf m9 (.tup [.int a, .int b])).isSome = true := rfl
        have t3 : (tagOf m9 (.int a)).isSome = true := rfl
        have t4 : (tagOf m9 (blkD ⟨1, 1, none, none⟩)).isSome = true := rfl
        have fi : opIn false m9 (.bl true) (.lst [.bl false, .bl false, .bl false, .bl false, .bl false]) = some (.bl false) := by with_unfolding_all rfl
        clear f1 f2 f3 ix k0 k1 k2 k3 mk23 z0 z1 a0 a1 b0 b1 w0 w1 d8 hb hv H
        trivial
        exact ⟨ks, _, _, _, _, _, _, _, _, _, _, rfl, rfl, hc9⟩
  obtain ⟨x, m, e, rfl⟩ := hm.ex_
  exact ⟨m, e⟩
end
end PG
namespace K31
open PySem PySem.Spec PyProof.Rows L2 DL PG
abbrev top (i : Nat) : Stmt := PySem.Challenge.pw_cellblocks_k31_changes_made.main.body.getD i (.Pass ⟨0, 0, 0, 0⟩)
abbrev S0 (K : PySem.W.Frag) : Sx := ⟨K, He.ga K, 0, [], ["Block", "Change", "Lines", "OfRows", "OfColumns", "PutRows", "TakeRows", "PutColumns", "TakeColumns", "Move"]⟩
abbrev inClass (st : Stmt) (j : Nat) : Stmt := match st with
  | .ClassDef _ _ _ body _ _ _ _ _ _ _ => body.getD j (.Pass ⟨0, 0, 0, 0⟩)
  | s => s
structure Fx (K : PySem.W.Frag) (mg : Str → Option Value) : Prop where
  g_Block : mg "Block" = some (.ref (He.ga K "Block"))
  g_CellError : mg "CellError" = some (.ref (He.ga K "CellError"))
  g_Change : mg "Change" = some (.ref (He.ga K "Change"))
  g_Move : mg "Move" = some (.ref (He.ga K "Move"))
  g_NoBlock : mg "NoBlock" = some (.ref (He.ga K "NoBlock"))
  g_NoCell : mg "NoCell" = some (.ref (He.ga K "NoCell"))
  g_NoChange : mg "NoChange" = some (.ref (He.ga K "NoChange"))
  g_NoNumber : mg "NoNumber" = some (.ref (He.ga K "NoNumber"))
  g_PutColumns : mg "PutColumns" = some (.ref (He.ga K "PutColumns"))
  g_PutRows : mg "PutRows" = some (.ref (He.ga K "PutRows"))
  g_TakeColumns : mg "TakeColumns" = some (.ref (He.ga K "TakeColumns"))
  g_TakeRows : mg "TakeRows" = some (.ref (He.ga K "TakeRows"))
  f_all : mg "all" = none
  f_bool : mg "bool" = none
  f_int : mg "int" = none
  f_isinstance : mg "isinstance" = none
  f_max : mg "max" = none
  f_range : mg "range" = none
  f_repr : mg "repr" = none
  f_str : mg "str" = none
  c_LETTERS : ∃ t, mg "LETTERS" = some (.str "ABCDEFGHIJKLMNOPQRSTUVWXYZ" t)
  x_NoBlock : ∀ n, ExF (at0 (S0 K) n) "NoBlock"
  x_NoChange : ∀ n, ExF (at0 (S0 K) n) "NoChange"
  n_at : ∀ n, ClsOk (at0 (S0 K) n) "at"
  n_block : ∀ n, ClsOk (at0 (S0 K) n) "block"
  n_bottom : ∀ n, ClsOk (at0 (S0 K) n) "bottom"
  n_column : ∀ n, ClsOk (at0 (S0 K) n) "column"
  n_left : ∀ n, ClsOk (at0 (S0 K) n) "left"
  n_many : ∀ n, ClsOk (at0 (S0 K) n) "many"
  n_right : ∀ n, ClsOk (at0 (S0 K) n) "right"
  n_row : ∀ n, ClsOk (at0 (S0 K) n) "row"
  n_top : ∀ n, ClsOk (at0 (S0 K) n) "top"
  ins : ∀ n, ∀ x ∈ (at0 (S0 K) n).cls, InsF (at0 (S0 K) n).K ((at0 (S0 K) n).A x)
  k_Block : ∀ n, KitF (at0 (S0 K) n) (.inr "Block")
  k_Change : ∀ n, KitF (at0 (S0 K) n) (.inr "Change")
  k_Move : ∀ n, KitF (at0 (S0 K) n) (.inr "Move")
  k_PutColumns : ∀ n, KitF (at0 (S0 K) n) (.inr "PutColumns")
  k_PutRows : ∀ n, KitF (at0 (S0 K) n) (.inr "PutRows")
  k_TakeColumns : ∀ n, KitF (at0 (S0 K) n) (.inr "TakeColumns")
  k_TakeRows : ∀ n, KitF (at0 (S0 K) n) (.inr "TakeRows")
  k_bool : ∀ n, KitF (at0 (S0 K) n) (.inl "bool")
  k_int : ∀ n, KitF (at0 (S0 K) n) (.inl "int")
  xk_NoBlock : ∀ n p, ExcsF ((at0 (S0 K) n).pin p) (["NoChange"] : List Str) (.inr "NoBlock")
  xk_NoCell : ∀ n p, ExcsF ((at0 (S0 K) n).pin p) (["NoChange"] : List Str) (.inr "NoCell")
  xk_NoChange : ∀ n p, ExcsF ((at0 (S0 K) n).pin p) (["NoChange"] : List Str) (.inr "NoChange")
  xk_NoNumber : ∀ n p, ExcsF ((at0 (S0 K) n).pin p) (["NoChange"] : List Str) (.inr "NoNumber")
  xm_CellError : ∀ n, ExmF (at0 (S0 K) n) (["NoChange"] : List Str) "CellError"
  nf_Block : ∀ n, NotF (at0 (S0 K) n) "Block"
  nf_Move : ∀ n, NotF (at0 (S0 K) n) "Move"
  nf_PutColumns : ∀ n, NotF (at0 (S0 K) n) "PutColumns"
  nf_PutRows : ∀ n, NotF (at0 (S0 K) n) "PutRows"
  nf_TakeColumns : ∀ n, NotF (at0 (S0 K) n) "TakeColumns"
  nf_TakeRows : ∀ n, NotF (at0 (S0 K) n) "TakeRows"
  ne_Block : ∀ n, NeF (at0 (S0 K) n) "Block"
  ne_Move : ∀ n, NeF (at0 (S0 K) n) "Move"
  ne_PutColumns : ∀ n, NeF (at0 (S0 K) n) "PutColumns"
  ne_PutRows : ∀ n, NeF (at0 (S0 K) n) "PutRows"
  ne_TakeColumns : ∀ n, NeF (at0 (S0 K) n) "TakeColumns"
  ne_TakeRows : ∀ n, NeF (at0 (S0 K) n) "TakeRows"
section
variable {P : Program} {w : World} {K : PySem.W.Frag} {mg : Str → Option Value} {base : Heap}
abbrev st_law_source : Stmt := top 46
abbrev nm_law_source : List Str := ["_law_cell"]
theorem sc_law_source : FnScope nm_law_source ["_law_cell"] (defScope st_law_source) := ⟨rfl, rfl, rfl, by decide +kernel, rfl, by decide +kernel, by decide +kernel⟩
theorem ok_law_source {fd : FuncData} {dvs : List V} {kws : List (Str × V)} (T : Fx K mg)  (F : FunD K "_law_source" "_law_source" (defArgs st_law_source) (defBody st_law_source) (defScope st_law_source) dvs kws (He.ga K "_law_source") fd) :
    FnOk P w K mg base (L2M.CX false P w) 1 (He.ga K "_law_source") fd ["_law_cell"] (spN (S0 K) 1 G_law_source) :=
  fnN_ok (S := S0 K) F sc_law_source fun n cdv A outer s H E hr =>
    have hnd := sc_law_source.nd
    have tk : L2M.Takes false (cxOf (L2M.CX false P w) P w K mg base nm_law_source "_law_source" (defScope st_law_source) (He.ga K "_law_source") cdv A outer s H E) (fun cls d _ H => E cls d H) := L2M.takes_of rfl rfl rfl rfl
    (pdss_one (pds_retC (pda_cons (pd_var (pv 0)) (pda_cons (pd_var (pv 0)) (pda_cons pd_int pda_nil)))))
abbrev st_law_mixed : Stmt := top 45
abbrev nm_law_mixed : List Str := ["_law_cell", "_law_k", "_law_number_here"]
theorem sc_law_mixed : FnScope nm_law_mixed ["_law_cell", "_law_k"] (defScope st_law_mixed) := ⟨rfl, rfl, rfl, by decide +kernel, rfl, by decide +kernel, by decide +kernel⟩
theorem ok_law_mixed {fd : FuncData} {dvs : List V} {kws : List (Str × V)} (T : Fx K mg)  (F : FunD K "_law_mixed" "_law_mixed" (defArgs st_law_mixed) (defBody st_law_mixed) (defScope st_law_mixed) dvs kws (He.ga K "_law_mixed") fd) :
    FnOk P w K mg base (L2M.CX false P w) 1 (He.ga K "_law_mixed") fd ["_law_cell", "_law_k"] (spD (S0 K) 2 G_law_mixed) :=
  fnD_ok (S := S0 K) F sc_law_mixed fun n cdv A outer s H E hr =>
    have hnd := sc_law_mixed.nd
    have tk : L2M.Takes false (cxOf (L2M.CX false P w) P w K mg base nm_law_mixed "_law_mixed" (defScope st_law_mixed) (He.ga K "_law_mixed") cdv A outer s H E) (fun cls d _ H => E cls d H) := L2M.takes_of rfl rfl rfl rfl
    (pdss_cons (pds_set hnd rfl (by first | exact Or.inl rfl | exact Or.inr rfl) (pd_op po_add (pd_op po_add (pd_op po_add (pd_op po_mod (pd_var (pv 0)) pd_int) (pd_op po_mul (pd_op po_div (pd_var (pv 0)) pd_int) pd_int)) (pd_op po_mul pd_int (pd_var (pv 1)))) pd_int))
      (pdss_cons (pds_set hnd rfl (by first | exact Or.inl rfl | exact Or.inr rfl) (pd_op po_mod (pd_op po_mul (pd_var (pv 2)) pd_int) pd_int))
      (pdss_cons (pds_set hnd rfl (by first | exact Or.inl rfl | exact Or.inr rfl) (pd_op po_mod (pd_op po_mul (pd_var (pv 2)) (pd_op po_add (pd_op po_add (pd_op po_div (pd_var (pv 2)) pd_int) pd_int) (pd_var (pv 1)))) pd_int))
      (pdss_one (pds_ret (pd_op po_mod (pd_op po_mul (pd_var (pv 2)) (pd_op po_add (pd_op po_div (pd_var (pv 2)) pd_int) pd_int)) pd_int))))))
abbrev st_law_next : Stmt := top 47
abbrev nm_law_next : List Str := ["_law_source_here", "_law_count", "_law_found"]
theorem sc_law_next : FnScope nm_law_next ["_law_source_here", "_law_count"] (defScope st_law_next) := ⟨rfl, rfl, rfl, by decide +kernel, rfl, by decide +kernel, by decide +kernel⟩
theorem ok_law_next {fd : FuncData} {dvs : List V} {kws : List (Str × V)} (T : Fx K mg) (C_law_mixed_fn : CalD false P w K mg base (S0 K) 1 "_law_mixed" 2 G_law_mixed dfl_law_mixed) (F : FunD K "_law_next" "_law_next" (defArgs st_law_next) (defBody st_law_next) (defScope st_law_next) dvs kws (He.ga K "_law_next") fd) :
    FnOk P w K mg base (L2M.CX false P w) 2 (He.ga K "_law_next") fd ["_law_source_here", "_law_count"] (spD (S0 K) 2 G_law_next) :=
  fnD_ok (S := S0 K) F sc_law_next fun n cdv A outer s H E hr =>
    have hnd := sc_law_next.nd
    have tk : L2M.Takes false (cxOf (L2M.CX false P w) P w K mg base nm_law_next "_law_next" (defScope st_law_next) (He.ga K "_law_next") cdv A outer s H E) (fun cls d _ H => E cls d H) := L2M.takes_of rfl rfl rfl rfl
    (pdss_cons (pds_if (pdt_cmp po_ge (pd_ix rfl (pd_var (pv 0)) pd_int (fun _ _ => rfl)) (pd_op po_pow pd_int pd_int) (nomark _))
      (pdss_cons (pds_set hnd rfl (by first | exact Or.inl rfl | exact Or.inr rfl) (pd_op po_mod (pd_ix rfl (pd_var (pv 0)) pd_int (fun _ _ => rfl)) (pd_var (pv 1))))
      (pdss_cons (pds_setIx (pd_op po_div (pd_ix rfl (pd_var (pv 0)) pd_int (fun _ _ => rfl)) (pd_var (pv 1))) (pd_var (pv 0)) pd_int)
      (pdss_one (pds_ret (pd_var (pv 2))))))
      pdss_nil)
      (pdss_cons (pds_setIx (pd_op po_add (pd_ix rfl (pd_var (pv 0)) pd_int (fun _ _ => rfl)) pd_int) (pd_var (pv 0)) pd_int)
      (pdss_one (pds_ret (pd_op po_mod (pd_c C_law_mixed_fn hr (by decide) 0 (by decide) tk rfl (pda_cons (pd_ix rfl (pd_var (pv 0)) pd_int (fun _ _ => rfl)) (pda_cons (pd_ix rfl (pd_var (pv 0)) pd_int (fun _ _ => rfl)) pda_nil))) (pd_var (pv 1)))))))
abbrev st_law_number : Stmt := top 52
abbrev nm_law_number : List Str := ["_law_source_here"]
theorem sc_law_number : FnScope nm_law_number ["_law_source_here"] (defScope st_law_number) := ⟨rfl, rfl, rfl, by decide +kernel, rfl, by decide +kernel, by decide +kernel⟩
theorem ok_law_number {fd : FuncData} {dvs : List V} {kws : List (Str × V)} (T : Fx K mg) (C_law_next_fn : CalD false P w K mg base (S0 K) 2 "_law_next" 2 G_law_next dfl_law_next) (F : FunD K "_law_number" "_law_number" (defArgs st_law_number) (defBody st_law_number) (defScope st_law_number) dvs kws (He.ga K "_law_number") fd) :
    FnOk P w K mg base (L2M.CX false P w) 3 (He.ga K "_law_number") fd ["_law_source_here"] (spD (S0 K) 1 G_law_number_k31) :=
  fnD_ok (S := S0 K) F sc_law_number fun n cdv A outer s H E hr =>
    have hnd := sc_law_number.nd
    have tk : L2M.Takes false (cxOf (L2M.CX false P w) P w K mg base nm_law_number "_law_number" (defScope st_law_number) (He.ga K "_law_number") cdv A outer s H E) (fun cls d _ H => E cls d H) := L2M.takes_of rfl rfl rfl rfl
    (pdss_one (pds_ret (pd_op po_add pd_int (pd_c C_law_next_fn hr (by decide) 0 (by decide) tk rfl (pda_cons (pd_var (pv 0)) (pda_cons (pd_ix rfl (pd_lst (pda_cons pd_int (pda_cons pd_int (pda_cons (pd_op po_pow pd_int pd_int) pda_nil)))) (pd_c C_law_next_fn hr (by decide) 0 (by decide) tk rfl (pda_cons (pd_var (pv 0)) (pda_cons pd_int pda_nil))) (fun _ _ => rfl)) pda_nil))))))
abbrev st_is_whole : Stmt := top 9
abbrev nm_is_whole : List Str := ["thing"]
theorem sc_is_whole : FnScope nm_is_whole ["thing"] (defScope st_is_whole) := ⟨rfl, rfl, rfl, by decide +kernel, rfl, by decide +kernel, by decide +kernel⟩
theorem ok_is_whole {fd : FuncData} {dvs : List V} {kws : List (Str × V)} (T : Fx K mg)  (F : FunD K "is_whole" "is_whole" (defArgs st_is_whole) (defBody st_is_whole) (defScope st_is_whole) dvs kws (He.ga K "is_whole") fd) :
    FnOk P w K mg base (L2M.CX false P w) 1 (He.ga K "is_whole") fd ["thing"] (spD (S0 K) 1 G_is_whole) :=
  fnD_ok (S := S0 K) F sc_is_whole fun n cdv A outer s H E hr =>
    have hnd := sc_is_whole.nd
    have tk : L2M.Takes false (cxOf (L2M.CX false P w) P w K mg base nm_is_whole "is_whole" (defScope st_is_whole) (He.ga K "is_whole") cdv A outer s H E) (fun cls d _ H => E cls d H) := L2M.takes_of rfl rfl rfl rfl
    (pdss_one (pds_ret (pd_and rfl (pd_blt (pb_isi rfl (T.ins n) (T.k_int n)) rfl T.f_isinstance (by decide +kernel) (pda_cons (pd_var (pv 0)) (pda_cons (pd_bvl rfl T.f_int (by decide +kernel)) pda_nil))) (pd_one (pd_not rfl (pd_blt (pb_isi rfl (T.ins n) (T.k_bool n)) rfl T.f_isinstance (by decide +kernel) (pda_cons (pd_var (pv 0)) (pda_cons (pd_bvl rfl T.f_bool (by decide +kernel)) pda_nil))))))))
abbrev st_is_count : Stmt := top 10
abbrev nm_is_count : List Str := ["thing"]
theorem sc_is_count : FnScope nm_is_count ["thing"] (defScope st_is_count) := ⟨rfl, rfl, rfl, by decide +kernel, rfl, by decide +kernel, by decide +kernel⟩
theorem ok_is_count {fd : FuncData} {dvs : List V} {kws : List (Str × V)} (T : Fx K mg) (C_is_whole_fn : CalD false P w K mg base (S0 K) 1 "is_whole" 1 G_is_whole dfl_is_whole) (F : FunD K "is_count" "is_count" (defArgs st_is_count) (defBody st_is_count) (defScope st_is_count) dvs kws (He.ga K "is_count") fd) :
    FnOk P w K mg base (L2M.CX false P w) 2 (He.ga K "is_count") fd ["thing"] (spD (S0 K) 1 G_is_count) :=
  fnD_ok (S := S0 K) F sc_is_count fun n cdv A outer s H E hr =>
    have hnd := sc_is_count.nd
    have tk : L2M.Takes false (cxOf (L2M.CX false P w) P w K mg base nm_is_count "is_count" (defScope st_is_count) (He.ga K "is_count") cdv A outer s H E) (fun cls d _ H => E cls d H) := L2M.takes_of rfl rfl rfl rfl
    (pdss_one (pds_ret (pd_and rfl (pd_c C_is_whole_fn hr (by decide) 0 (by decide) tk rfl (pda_cons (pd_var (pv 0)) pda_nil)) (pd_one (pd_cmp po_ge (pd_var (pv 0)) pd_int (nomark _))))))
abbrev st_PutRows_checked : Stmt := inClass (top 29) 0
abbrev nm_PutRows_checked : List Str := ["self", "numbers", "number"]
theorem sc_PutRows_checked : FnScope nm_PutRows_checked ["self", "numbers"] (defScope st_PutRows_checked) := ⟨rfl, rfl, rfl, by decide +kernel, rfl, by decide +kernel, by decide +kernel⟩
theorem ok_PutRows_checked {fd : FuncData} {dvs : List V} {kws : List (Str × V)} (T : Fx K mg) (C_is_count_fn : CalD false P w K mg base (S0 K) 2 "is_count" 1 G_is_count dfl_is_count) (F : FunD K "checked" "Change.checked" (defArgs st_PutRows_checked) (defBody st_PutRows_checked) (defScope st_PutRows_checked) dvs kws (He.ma K (He.ga K "PutRows") "checked") fd) :
    FnOk P w K mg base (L2M.CX false P w) 3 (He.ma K (He.ga K "PutRows") "checked") fd ["self", "numbers"] (spD (S0 K) 2 G_Change_checked) :=
  fnD_ok (S := S0 K) F sc_PutRows_checked fun n cdv A outer s H E hr =>
    have hnd := sc_PutRows_checked.nd
    have tk : L2M.Takes false (cxOf (L2M.CX false P w) P w K mg base nm_PutRows_checked "Change.checked" (defScope st_PutRows_checked) (He.ma K (He.ga K "PutRows") "checked") cdv A outer s H E) (fun cls d _ H => E cls d H) := L2M.takes_of rfl rfl rfl rfl
    (pdss_one (pds_if (pdt_not (pdt_tru rfl (pd_blt (pb_all rfl rfl) rfl T.f_all (by decide +kernel) (pda_cons (pd_lc (own := [("number", 2)]) rfl (by exact hnd) (pdi_any rfl (pd_var (pv 1))) (blkOk_by (own := [("number", 2)]) (N := ["self", "numbers", "number"]) (sc := defScope st_PutRows_checked) (by decide +kernel)) (by decide) (fun _ _ _ _ _ => (pdg_name hnd rfl (by first | exact Or.inl rfl | exact Or.inr rfl))) (fun _ _ _ _ _ => pdts_nil) (fun _ _ _ _ _ => (pd_c C_is_count_fn hr (by decide) 0 (by decide) takesNo rfl (pda_cons (pd_var (pv 2)) pda_nil)))) pda_nil))))
      (pdss_one (pds_raise rfl (T.x_NoChange n) rfl tk rfl T.g_NoChange))
      pdss_nil))
abbrev st_PutRows_init__ : Stmt := inClass (top 35) 0
abbrev nm_PutRows_init__ : List Str := ["self", "at", "many"]
theorem sc_PutRows_init__ : FnScope nm_PutRows_init__ ["self", "at", "many"] (defScope st_PutRows_init__) := ⟨rfl, rfl, rfl, by decide +kernel, rfl, by decide +kernel, by decide +kernel⟩
theorem ok_PutRows_init__ {fd : FuncData} {dvs : List V} {kws : List (Str × V)} (T : Fx K mg) (C_PutRows_checked_mt : MetD false P w K mg base (S0 K) 3 "PutRows" "checked" 2 G_Change_checked dfl_Change_checked) (F : FunD K "__init__" "Lines.__init__" (defArgs st_PutRows_init__) (defBody st_PutRows_init__) (defScope st_PutRows_init__) dvs kws (He.ma K (He.ga K "PutRows") "__init__") fd) :
    FnOk P w K mg base (L2M.CX false P w) 4 (He.ma K (He.ga K "PutRows") "__init__") fd ["self", "at", "many"] (spD (S0 K) 3 G_PutRows_init__) :=
  fnD_ok (S := S0 K) F sc_PutRows_init__ fun n cdv A outer s H E hr =>
    have hnd := sc_PutRows_init__.nd
    have tk : L2M.Takes false (cxOf (L2M.CX false P w) P w K mg base nm_PutRows_init__ "Lines.__init__" (defScope st_PutRows_init__) (He.ma K (He.ga K "PutRows") "__init__") cdv A outer s H E) (fun cls d _ H => E cls d H) := L2M.takes_of rfl rfl rfl rfl
    (pdss_cons (pds_exp (pd_m rfl C_PutRows_checked_mt hr (by decide) 0 (by decide) tk (pd_var (pv 0)) (pda_cons (pd_lst (pda_cons (pd_var (pv 1)) (pda_cons (pd_var (pv 2)) pda_nil))) pda_nil)))
      (pdss_cons (pds_fld rfl (T.n_at n) (pd_var (pv 0)) (pd_var (pv 1)))
      (pdss_one (pds_fld rfl (T.n_many n) (pd_var (pv 0)) (pd_var (pv 2))))))
abbrev st_TakeRows_checked : Stmt := inClass (top 29) 0
abbrev nm_TakeRows_checked : List Str := ["self", "numbers", "number"]
theorem sc_TakeRows_checked : FnScope nm_TakeRows_checked ["self", "numbers"] (defScope st_TakeRows_checked) := ⟨rfl, rfl, rfl, by decide +kernel, rfl, by decide +kernel, by decide +kernel⟩
theorem ok_TakeRows_checked {fd : FuncData} {dvs : List V} {kws : List (Str × V)} (T : Fx K mg) (C_is_count_fn : CalD false P w K mg base (S0 K) 2 "is_count" 1 G_is_count dfl_is_count) (F : FunD K "checked" "Change.checked" (defArgs st_TakeRows_checked) (defBody st_TakeRows_checked) (defScope st_TakeRows_checked) dvs kws (He.ma K (He.ga K "TakeRows") "checked") fd) :
    FnOk P w K mg base (L2M.CX false P w) 3 (He.ma K (He.ga K "TakeRows") "checked") fd ["self", "numbers"] (spD (S0 K) 2 G_Change_checked) :=
  fnD_ok (S := S0 K) F sc_TakeRows_checked fun n cdv A outer s H E hr =>
    have hnd := sc_TakeRows_checked.nd
    have tk : L2M.Takes false (cxOf (L2M.CX false P w) P w K mg base nm_TakeRows_checked "Change.checked" (defScope st_TakeRows_checked) (He.ma K (He.ga K "TakeRows") "checked") cdv A outer s H E) (fun cls d _ H => E cls d H) := L2M.takes_of rfl rfl rfl rfl
    (pdss_one (pds_if (pdt_not (pdt_tru rfl (pd_blt (pb_all rfl rfl) rfl T.f_all (by decide +kernel) (pda_cons (pd_lc (own := [("number", 2)]) rfl (by exact hnd) (pdi_any rfl (pd_var (pv 1))) (blkOk_by (own := [("number", 2)]) (N := ["self", "numbers", "number"]) (sc := defScope st_TakeRows_checked) (by decide +kernel)) (by decide) (fun _ _ _ _ _ => (pdg_name hnd rfl (by first | exact Or.inl rfl | exact Or.inr rfl))) (fun _ _ _ _ _ => pdts_nil) (fun _ _ _ _ _ => (pd_c C_is_count_fn hr (by decide) 0 (by decide) takesNo rfl (pda_cons (pd_var (pv 2)) pda_nil)))) pda_nil))))
      (pdss_one (pds_raise rfl (T.x_NoChange n) rfl tk rfl T.g_NoChange))
      pdss_nil))
abbrev st_TakeRows_init__ : Stmt := inClass (top 35) 0
abbrev nm_TakeRows_init__ : List Str := ["self", "at", "many"]
theorem sc_TakeRows_init__ : FnScope nm_TakeRows_init__ ["self", "at", "many"] (defScope st_TakeRows_init__) := ⟨rfl, rfl, rfl, by decide +kernel, rfl, by decide +kernel, by decide +kernel⟩
theorem ok_TakeRows_init__ {fd : FuncData} {dvs : List V} {kws : List (Str × V)} (T : Fx K mg) (C_TakeRows_checked_mt : MetD false P w K mg base (S0 K) 3 "TakeRows" "checked" 2 G_Change_checked dfl_Change_checked) (F : FunD K "__init__" "Lines.__init__" (defArgs st_TakeRows_init__) (defBody st_TakeRows_init__) (defScope st_TakeRows_init__) dvs kws (He.ma K (He.ga K "TakeRows") "__init__") fd) :
    FnOk P w K mg base (L2M.CX false P w) 4 (He.ma K (He.ga K "TakeRows") "__init__") fd ["self", "at", "many"] (spD (S0 K) 3 G_TakeRows_init__) :=
  fnD_ok (S := S0 K) F sc_TakeRows_init__ fun n cdv A outer s H E hr =>
    have hnd := sc_TakeRows_init__.nd
    have tk : L2M.Takes false (cxOf (L2M.CX false P w) P w K mg base nm_TakeRows_init__ "Lines.__init__" (defScope st_TakeRows_init__) (He.ma K (He.ga K "TakeRows") "__init__") cdv A outer s H E) (fun cls d _ H => E cls d H) := L2M.takes_of rfl rfl rfl rfl
    (pdss_cons (pds_exp (pd_m rfl C_TakeRows_checked_mt hr (by decide) 0 (by decide) tk (pd_var (pv 0)) (pda_cons (pd_lst (pda_cons (pd_var (pv 1)) (pda_cons (pd_var (pv 2)) pda_nil))) pda_nil)))
      (pdss_cons (pds_fld rfl (T.n_at n) (pd_var (pv 0)) (pd_var (pv 1)))
      (pdss_one (pds_fld rfl (T.n_many n) (pd_var (pv 0)) (pd_var (pv 2))))))
abbrev st_PutColumns_checked : Stmt := inClass (top 29) 0
abbrev nm_PutColumns_checked : List Str := ["self", "numbers", "number"]
theorem sc_PutColumns_checked : FnScope nm_PutColumns_checked ["self", "numbers"] (defScope st_PutColumns_checked) := ⟨rfl, rfl, rfl, by decide +kernel, rfl, by decide +kernel, by decide +kernel⟩
theorem ok_PutColumns_checked {fd : FuncData} {dvs : List V} {kws : List (Str × V)} (T : Fx K mg) (C_is_count_fn : CalD false P w K mg base (S0 K) 2 "is_count" 1 G_is_count dfl_is_count) (F : FunD K "checked" "Change.checked" (defArgs st_PutColumns_checked) (defBody st_PutColumns_checked) (defScope st_PutColumns_checked) dvs kws (He.ma K (He.ga K "PutColumns") "checked") fd) :
    FnOk P w K mg base (L2M.CX false P w) 3 (He.ma K (He.ga K "PutColumns") "checked") fd ["self", "numbers"] (spD (S0 K) 2 G_Change_checked) :=
  fnD_ok (S := S0 K) F sc_PutColumns_checked fun n cdv A outer s H E hr =>
    have hnd := sc_PutColumns_checked.nd
    have tk : L2M.Takes false (cxOf (L2M.CX false P w) P w K mg base nm_PutColumns_checked "Change.checked" (defScope st_PutColumns_checked) (He.ma K (He.ga K "PutColumns") "checked") cdv A outer s H E) (fun cls d _ H => E cls d H) := L2M.takes_of rfl rfl rfl rfl
    (pdss_one (pds_if (pdt_not (pdt_tru rfl (pd_blt (pb_all rfl rfl) rfl T.f_all (by decide +kernel) (pda_cons (pd_lc (own := [("number", 2)]) rfl (by exact hnd) (pdi_any rfl (pd_var (pv 1))) (blkOk_by (own := [("number", 2)]) (N := ["self", "numbers", "number"]) (sc := defScope st_PutColumns_checked) (by decide +kernel)) (by decide) (fun _ _ _ _ _ => (pdg_name hnd rfl (by first | exact Or.inl rfl | exact Or.inr rfl))) (fun _ _ _ _ _ => pdts_nil) (fun _ _ _ _ _ => (pd_c C_is_count_fn hr (by decide) 0 (by decide) takesNo rfl (pda_cons (pd_var (pv 2)) pda_nil)))) pda_nil))))
      (pdss_one (pds_raise rfl (T.x_NoChange n) rfl tk rfl T.g_NoChange))
      pdss_nil))
abbrev st_PutColumns_init__ : Stmt := inClass (top 35) 0
abbrev nm_PutColumns_init__ : List Str := ["self", "at", "many"]
theorem sc_PutColumns_init__ : FnScope nm_PutColumns_init__ ["self", "at", "many"] (defScope st_PutColumns_init__) := ⟨rfl, rfl, rfl, by decide +kernel, rfl, by decide +kernel, by decide +kernel⟩
theorem ok_PutColumns_init__ {fd : FuncData} {dvs : List V} {kws : List (Str × V)} (T : Fx K mg) (C_PutColumns_checked_mt : MetD false P w K mg base (S0 K) 3 "PutColumns" "checked" 2 G_Change_checked dfl_Change_checked) (F : FunD K "__init__" "Lines.__init__" (defArgs st_PutColumns_init__) (defBody st_PutColumns_init__) (defScope st_PutColumns_init__) dvs kws (He.ma K (He.ga K "PutColumns") "__init__") fd) :
    FnOk P w K mg base (L2M.CX false P w) 4 (He.ma K (He.ga K "PutColumns") "__init__") fd ["self", "at", "many"] (spD (S0 K) 3 G_PutColumns_init__) :=
  fnD_ok (S := S0 K) F sc_PutColumns_init__ fun n cdv A outer s H E hr =>
    have hnd := sc_PutColumns_init__.nd
    have tk : L2M.Takes false (cxOf (L2M.CX false P w) P w K mg base nm_PutColumns_init__ "Lines.__init__" (defScope st_PutColumns_init__) (He.ma K (He.ga K "PutColumns") "__init__") cdv A outer s H E) (fun cls d _ H => E cls d H) := L2M.takes_of rfl rfl rfl rfl
    (pdss_cons (pds_exp (pd_m rfl C_PutColumns_checked_mt hr (by decide) 0 (by decide) tk (pd_var (pv 0)) (pda_cons (pd_lst (pda_cons (pd_var (pv 1)) (pda_cons (pd_var (pv 2)) pda_nil))) pda_nil)))
      (pdss_cons (pds_fld rfl (T.n_at n) (pd_var (pv 0)) (pd_var (pv 1)))
      (pdss_one (pds_fld rfl (T.n_many n) (pd_var (pv 0)) (pd_var (pv 2))))))
abbrev st_TakeColumns_checked : Stmt := inClass (top 29) 0
abbrev nm_TakeColumns_checked : List Str := ["self", "numbers", "number"]
theorem sc_TakeColumns_checked : FnScope nm_TakeColumns_checked ["self", "numbers"] (defScope st_TakeColumns_checked) := ⟨rfl, rfl, rfl, by decide +kernel, rfl, by decide +kernel, by decide +kernel⟩
theorem ok_TakeColumns_checked {fd : FuncData} {dvs : List V} {kws : List (Str × V)} (T : Fx K mg) (C_is_count_fn : CalD false P w K mg base (S0 K) 2 "is_count" 1 G_is_count dfl_is_count) (F : FunD K "checked" "Change.checked" (defArgs st_TakeColumns_checked) (defBody st_TakeColumns_checked) (defScope st_TakeColumns_checked) dvs kws (He.ma K (He.ga K "TakeColumns") "checked") fd) :
    FnOk P w K mg base (L2M.CX false P w) 3 (He.ma K (He.ga K "TakeColumns") "checked") fd ["self", "numbers"] (spD (S0 K) 2 G_Change_checked) :=
  fnD_ok (S := S0 K) F sc_TakeColumns_checked fun n cdv A outer s H E hr =>
    have hnd := sc_TakeColumns_checked.nd
    have tk : L2M.Takes false (cxOf (L2M.CX false P w) P w K mg base nm_TakeColumns_checked "Change.checked" (defScope st_TakeColumns_checked) (He.ma K (He.ga K "TakeColumns") "checked") cdv A outer s H E) (fun cls d _ H => E cls d H) := L2M.takes_of rfl rfl rfl rfl
    (pdss_one (pds_if (pdt_not (pdt_tru rfl (pd_blt (pb_all rfl rfl) rfl T.f_all (by decide +kernel) (pda_cons (pd_lc (own := [("number", 2)]) rfl (by exact hnd) (pdi_any rfl (pd_var (pv 1))) (blkOk_by (own := [("number", 2)]) (N := ["self", "numbers", "number"]) (sc := defScope st_TakeColumns_checked) (by decide +kernel)) (by decide) (fun _ _ _ _ _ => (pdg_name hnd rfl (by first | exact Or.inl rfl | exact Or.inr rfl))) (fun _ _ _ _ _ => pdts_nil) (fun _ _ _ _ _ => (pd_c C_is_count_fn hr (by decide) 0 (by decide) takesNo rfl (pda_cons (pd_var (pv 2)) pda_nil)))) pda_nil))))
      (pdss_one (pds_raise rfl (T.x_NoChange n) rfl tk rfl T.g_NoChange))
      pdss_nil))
abbrev st_TakeColumns_init__ : Stmt := inClass (top 35) 0
abbrev nm_TakeColumns_init__ : List Str := ["self", "at", "many"]
theorem sc_TakeColumns_init__ : FnScope nm_TakeColumns_init__ ["self", "at", "many"] (defScope st_TakeColumns_init__) := ⟨rfl, rfl, rfl, by decide +kernel, rfl, by decide +kernel, by decide +kernel⟩
theorem ok_TakeColumns_init__ {fd : FuncData} {dvs : List V} {kws : List (Str × V)} (T : Fx K mg) (C_TakeColumns_checked_mt : MetD false P w K mg base (S0 K) 3 "TakeColumns" "checked" 2 G_Change_checked dfl_Change_checked) (F : FunD K "__init__" "Lines.__init__" (defArgs st_TakeColumns_init__) (defBody st_TakeColumns_init__) (defScope st_TakeColumns_init__) dvs kws (He.ma K (He.ga K "TakeColumns") "__init__") fd) :
    FnOk P w K mg base (L2M.CX false P w) 4 (He.ma K (He.ga K "TakeColumns") "__init__") fd ["self", "at", "many"] (spD (S0 K) 3 G_TakeColumns_init__) :=
  fnD_ok (S := S0 K) F sc_TakeColumns_init__ fun n cdv A outer s H E hr =>
    have hnd := sc_TakeColumns_init__.nd
    have tk : L2M.Takes false (cxOf (L2M.CX false P w) P w K mg base nm_TakeColumns_init__ "Lines.__init__" (defScope st_TakeColumns_init__) (He.ma K (He.ga K "TakeColumns") "__init__") cdv A outer s H E) (fun cls d _ H => E cls d H) := L2M.takes_of rfl rfl rfl rfl
    (pdss_cons (pds_exp (pd_m rfl C_TakeColumns_checked_mt hr (by decide) 0 (by decide) tk (pd_var (pv 0)) (pda_cons (pd_lst (pda_cons (pd_var (pv 1)) (pda_cons (pd_var (pv 2)) pda_nil))) pda_nil)))
      (pdss_cons (pds_fld rfl (T.n_at n) (pd_var (pv 0)) (pd_var (pv 1)))
      (pdss_one (pds_fld rfl (T.n_many n) (pd_var (pv 0)) (pd_var (pv 2))))))
abbrev st_law_lines : Stmt := top 48
abbrev nm_law_lines : List Str := ["_law_way", "_law_begin", "_law_count"]
theorem sc_law_lines : FnScope nm_law_lines ["_law_way", "_law_begin", "_law_count"] (defScope st_law_lines) := ⟨rfl, rfl, rfl, by decide +kernel, rfl, by decide +kernel, by decide +kernel⟩
theorem ok_law_lines {fd : FuncData} {dvs : List V} {kws : List (Str × V)} (T : Fx K mg) (C_PutRows_init___mk : MakD false P w K mg base (S0 K) 4 "PutRows" 3 G_PutRows_init__ dfl_PutRows_init__) (C_TakeRows_init___mkK0_many_at : MakK false P w K mg base (S0 K) 4 "TakeRows" 3 G_TakeRows_init__ 0 ["many", "at"] [1, 0] dfl_TakeRows_init__) (C_PutColumns_init___mkK1_many : MakK false P w K mg base (S0 K) 4 "PutColumns" 3 G_PutColumns_init__ 1 ["many"] [0, 1] dfl_PutColumns_init__) (C_TakeColumns_init___mk : MakD false P w K mg base (S0 K) 4 "TakeColumns" 3 G_TakeColumns_init__ dfl_TakeColumns_init__) (F : FunD K "_law_lines" "_law_lines" (defArgs st_law_lines) (defBody st_law_lines) (defScope st_law_lines) dvs kws (He.ga K "_law_lines") fd) :
    FnOk P w K mg base (L2M.CX false P w) 6 (He.ga K "_law_lines") fd ["_law_way", "_law_begin", "_law_count"] (spD (S0 K) 3 G_law_lines) :=
  fnD_ok (S := S0 K) F sc_law_lines fun n cdv A outer s H E hr =>
    have hnd := sc_law_lines.nd
    have tk : L2M.Takes false (cxOf (L2M.CX false P w) P w K mg base nm_law_lines "_law_lines" (defScope st_law_lines) (He.ga K "_law_lines") cdv A outer s H E) (fun cls d _ H => E cls d H) := L2M.takes_of rfl rfl rfl rfl
    (pdss_cons (pds_if (pdt_cmp (po_eq rfl hr.units) (pd_var (pv 0)) pd_int (nomark _))
      (pdss_one (pds_ret (pd_mk rfl C_PutRows_init___mk hr (by decide) 1 (by decide) tk rfl (pda_cons (pd_var (pv 1)) (pda_cons (pd_var (pv 2)) pda_nil)))))
      pdss_nil)
      (pdss_cons (pds_if (pdt_cmp (po_eq rfl hr.units) (pd_var (pv 0)) pd_int (nomark _))
      (pdss_one (pds_ret (pd_mkk0 rfl C_TakeRows_init___mkK0_many_at hr (by decide) tk rfl (pdk_cons (pd_var (pv 2)) (pdk_cons (pd_var (pv 1)) pdk_nil)))))
      pdss_nil)
      (pdss_cons (pds_if (pdt_cmp (po_eq rfl hr.units) (pd_var (pv 0)) pd_int (nomark _))
      (pdss_one (pds_ret (pd_mkk rfl C_PutColumns_init___mkK1_many hr (by decide) tk rfl (pda_cons (pd_var (pv 1)) pda_nil) (pdk_cons (pd_var (pv 2)) pdk_nil))))
      pdss_nil)
      (pdss_one (pds_ret (pd_mk rfl C_TakeColumns_init___mk hr (by decide) 1 (by decide) tk rfl (pda_cons (pd_var (pv 1)) (pda_cons (pd_var (pv 2)) pda_nil))))))))
abbrev st_TakeColumns_repr__ : Stmt := inClass (top 41) 1
abbrev nm_TakeColumns_repr__ : List Str := ["self"]
theorem sc_TakeColumns_repr__ : FnScope nm_TakeColumns_repr__ ["self"] (defScope st_TakeColumns_repr__) := ⟨rfl, rfl, rfl, by decide +kernel, rfl, by decide +kernel, by decide +kernel⟩
theorem ok_TakeColumns_repr__ {fd : FuncData} {dvs : List V} {kws : List (Str × V)} (T : Fx K mg)  (F : FunD K "__repr__" "TakeColumns.__repr__" (defArgs st_TakeColumns_repr__) (defBody st_TakeColumns_repr__) (defScope st_TakeColumns_repr__) dvs kws (He.ma K (He.ga K "TakeColumns") "__repr__") fd) :
    FnOk P w K mg base (L2M.CX false P w) 1 (He.ma K (He.ga K "TakeColumns") "__repr__") fd ["self"] (spD (S0 K) 1 G_TakeColumns_repr__) :=
  fnD_ok (S := S0 K) F sc_TakeColumns_repr__ fun n cdv A outer s H E hr =>
    have hnd := sc_TakeColumns_repr__.nd
    have tk : L2M.Takes false (cxOf (L2M.CX false P w) P w K mg base nm_TakeColumns_repr__ "TakeColumns.__repr__" (defScope st_TakeColumns_repr__) (He.ma K (He.ga K "TakeColumns") "__repr__") cdv A outer s H E) (fun cls d _ H => E cls d H) := L2M.takes_of rfl rfl rfl rfl
    (pdss_one (pds_ret (pd_fs (pdj_cons (pd_str (by decide +kernel)) (pdj_cons (pd_fmt (pd_fld rfl (T.n_at n) (pd_var (pv 0)))) (pdj_cons (pd_str (by decide +kernel)) (pdj_cons (pd_fmt (pd_fld rfl (T.n_many n) (pd_var (pv 0)))) (pdj_cons (pd_str (by decide +kernel)) pdj_nil))))))))
abbrev st_PutColumns_repr__ : Stmt := inClass (top 40) 1
abbrev nm_PutColumns_repr__ : List Str := ["self"]
theorem sc_PutColumns_repr__ : FnScope nm_PutColumns_repr__ ["self"] (defScope st_PutColumns_repr__) := ⟨rfl, rfl, rfl, by decide +kernel, rfl, by decide +kernel, by decide +kernel⟩
theorem ok_PutColumns_repr__ {fd : FuncData} {dvs : List V} {kws : List (Str × V)} (T : Fx K mg)  (F : FunD K "__repr__" "PutColumns.__repr__" (defArgs st_PutColumns_repr__) (defBody st_PutColumns_repr__) (defScope st_PutColumns_repr__) dvs kws (He.ma K (He.ga K "PutColumns") "__repr__") fd) :
    FnOk P w K mg base (L2M.CX false P w) 1 (He.ma K (He.ga K "PutColumns") "__repr__") fd ["self"] (spD (S0 K) 1 G_PutColumns_repr__) :=
  fnD_ok (S := S0 K) F sc_PutColumns_repr__ fun n cdv A outer s H E hr =>
    have hnd := sc_PutColumns_repr__.nd
    have tk : L2M.Takes false (cxOf (L2M.CX false P w) P w K mg base nm_PutColumns_repr__ "PutColumns.__repr__" (defScope st_PutColumns_repr__) (He.ma K (He.ga K "PutColumns") "__repr__") cdv A outer s H E) (fun cls d _ H => E cls d H) := L2M.takes_of rfl rfl rfl rfl
    (pdss_one (pds_ret (pd_fs (pdj_cons (pd_str (by decide +kernel)) (pdj_cons (pd_fmt (pd_fld rfl (T.n_at n) (pd_var (pv 0)))) (pdj_cons (pd_str (by decide +kernel)) (pdj_cons (pd_fmt (pd_fld rfl (T.n_many n) (pd_var (pv 0)))) (pdj_cons (pd_str (by decide +kernel)) pdj_nil))))))))
abbrev st_TakeRows_repr__ : Stmt := inClass (top 39) 1
abbrev nm_TakeRows_repr__ : List Str := ["self"]
theorem sc_TakeRows_repr__ : FnScope nm_TakeRows_repr__ ["self"] (defScope st_TakeRows_repr__) := ⟨rfl, rfl, rfl, by decide +kernel, rfl, by decide +kernel, by decide +kernel⟩
theorem ok_TakeRows_repr__ {fd : FuncData} {dvs : List V} {kws : List (Str × V)} (T : Fx K mg)  (F : FunD K "__repr__" "TakeRows.__repr__" (defArgs st_TakeRows_repr__) (defBody st_TakeRows_repr__) (defScope st_TakeRows_repr__) dvs kws (He.ma K (He.ga K "TakeRows") "__repr__") fd) :
    FnOk P w K mg base (L2M.CX false P w) 1 (He.ma K (He.ga K "TakeRows") "__repr__") fd ["self"] (spD (S0 K) 1 G_TakeRows_repr__) :=
  fnD_ok (S := S0 K) F sc_TakeRows_repr__ fun n cdv A outer s H E hr =>
    have hnd := sc_TakeRows_repr__.nd
    have tk : L2M.Takes false (cxOf (L2M.CX false P w) P w K mg base nm_TakeRows_repr__ "TakeRows.__repr__" (defScope st_TakeRows_repr__) (He.ma K (He.ga K "TakeRows") "__repr__") cdv A outer s H E) (fun cls d _ H => E cls d H) := L2M.takes_of rfl rfl rfl rfl
    (pdss_one (pds_ret (pd_fs (pdj_cons (pd_str (by decide +kernel)) (pdj_cons (pd_fmt (pd_fld rfl (T.n_at n) (pd_var (pv 0)))) (pdj_cons (pd_str (by decide +kernel)) (pdj_cons (pd_fmt (pd_fld rfl (T.n_many n) (pd_var (pv 0)))) (pdj_cons (pd_str (by decide +kernel)) pdj_nil))))))))
abbrev st_PutRows_repr__ : Stmt := inClass (top 38) 1
abbrev nm_PutRows_repr__ : List Str := ["self"]
theorem sc_PutRows_repr__ : FnScope nm_PutRows_repr__ ["self"] (defScope st_PutRows_repr__) := ⟨rfl, rfl, rfl, by decide +kernel, rfl, by decide +kernel, by decide +kernel⟩
theorem ok_PutRows_repr__ {fd : FuncData} {dvs : List V} {kws : List (Str × V)} (T : Fx K mg)  (F : FunD K "__repr__" "PutRows.__repr__" (defArgs st_PutRows_repr__) (defBody st_PutRows_repr__) (defScope st_PutRows_repr__) dvs kws (He.ma K (He.ga K "PutRows") "__repr__") fd) :
    FnOk P w K mg base (L2M.CX false P w) 1 (He.ma K (He.ga K "PutRows") "__repr__") fd ["self"] (spD (S0 K) 1 G_PutRows_repr__) :=
  fnD_ok (S := S0 K) F sc_PutRows_repr__ fun n cdv A outer s H E hr =>
    have hnd := sc_PutRows_repr__.nd
    have tk : L2M.Takes false (cxOf (L2M.CX false P w) P w K mg base nm_PutRows_repr__ "PutRows.__repr__" (defScope st_PutRows_repr__) (He.ma K (He.ga K "PutRows") "__repr__") cdv A outer s H E) (fun cls d _ H => E cls d H) := L2M.takes_of rfl rfl rfl rfl
    (pdss_one (pds_ret (pd_fs (pdj_cons (pd_str (by decide +kernel)) (pdj_cons (pd_fmt (pd_fld rfl (T.n_at n) (pd_var (pv 0)))) (pdj_cons (pd_str (by decide +kernel)) (pdj_cons (pd_fmt (pd_fld rfl (T.n_many n) (pd_var (pv 0)))) (pdj_cons (pd_str (by decide +kernel)) pdj_nil))))))))
abbrev st_law_kinds : Stmt := top 50
abbrev nm_law_kinds : List Str := ["_law_thing", "_law_some"]
theorem sc_law_kinds : FnScope nm_law_kinds ["_law_thing"] (defScope st_law_kinds) := ⟨rfl, rfl, rfl, by decide +kernel, rfl, by decide +kernel, by decide +kernel⟩
theorem ok_law_kinds {fd : FuncData} {dvs : List V} {kws : List (Str × V)} (T : Fx K mg)  (F : FunD K "_law_kinds" "_law_kinds" (defArgs st_law_kinds) (defBody st_law_kinds) (defScope st_law_kinds) dvs kws (He.ga K "_law_kinds") fd) :
    FnOk P w K mg base (L2M.CX false P w) 1 (He.ga K "_law_kinds") fd ["_law_thing"] (spD (S0 K) 1 G_law_kinds) :=
  fnD_ok (S := S0 K) F sc_law_kinds fun n cdv A outer s H E hr =>
    have hnd := sc_law_kinds.nd
    have tk : L2M.Takes false (cxOf (L2M.CX false P w) P w K mg base nm_law_kinds "_law_kinds" (defScope st_law_kinds) (He.ga K "_law_kinds") cdv A outer s H E) (fun cls d _ H => E cls d H) := L2M.takes_of rfl rfl rfl rfl
    (pdss_cons (pds_set hnd rfl (by first | exact Or.inl rfl | exact Or.inr rfl) (pd_lst (pda_cons (pd_blt (pb_isi rfl (T.ins n) (T.k_PutRows n)) rfl T.f_isinstance (by decide +kernel) (pda_cons (pd_var (pv 0)) (pda_cons (pd_glo rfl T.g_PutRows) pda_nil))) (pda_cons (pd_blt (pb_isi rfl (T.ins n) (T.k_TakeRows n)) rfl T.f_isinstance (by decide +kernel) (pda_cons (pd_var (pv 0)) (pda_cons (pd_glo rfl T.g_TakeRows) pda_nil))) (pda_cons (pd_blt (pb_isi rfl (T.ins n) (T.k_PutColumns n)) rfl T.f_isinstance (by decide +kernel) (pda_cons (pd_var (pv 0)) (pda_cons (pd_glo rfl T.g_PutColumns) pda_nil))) pda_nil)))))
      (pdss_one (pds_ret (pd_op po_add (pd_var (pv 1)) (pd_lst (pda_cons (pd_blt (pb_isi rfl (T.ins n) (T.k_TakeColumns n)) rfl T.f_isinstance (by decide +kernel) (pda_cons (pd_var (pv 0)) (pda_cons (pd_glo rfl T.g_TakeColumns) pda_nil))) (pda_cons (pd_blt (pb_isi rfl (T.ins n) (T.k_Move n)) rfl T.f_isinstance (by decide +kernel) (pda_cons (pd_var (pv 0)) (pda_cons (pd_glo rfl T.g_Move) pda_nil))) (pda_cons (pd_blt (pb_isi rfl (T.ins n) (T.k_Change n)) rfl T.f_isinstance (by decide +kernel) (pda_cons (pd_var (pv 0)) (pda_cons (pd_glo rfl T.g_Change) pda_nil))) pda_nil))))))))
abbrev st_TakeColumns_undoing : Stmt := inClass (top 41) 3
abbrev nm_TakeColumns_undoing : List Str := ["self"]
theorem sc_TakeColumns_undoing : FnScope nm_TakeColumns_undoing ["self"] (defScope st_TakeColumns_undoing) := ⟨rfl, rfl, rfl, by decide +kernel, rfl, by decide +kernel, by decide +kernel⟩
theorem ok_TakeColumns_undoing {fd : FuncData} {dvs : List V} {kws : List (Str × V)} (T : Fx K mg) (C_PutColumns_init___mk : MakD false P w K mg base (S0 K) 4 "PutColumns" 3 G_PutColumns_init__ dfl_PutColumns_init__) (F : FunD K "undoing" "TakeColumns.undoing" (defArgs st_TakeColumns_undoing) (defBody st_TakeColumns_undoing) (defScope st_TakeColumns_undoing) dvs kws (He.ma K (He.ga K "TakeColumns") "undoing") fd) :
    FnOk P w K mg base (L2M.CX false P w) 6 (He.ma K (He.ga K "TakeColumns") "undoing") fd ["self"] (spD (S0 K) 1 G_TakeColumns_undoing) :=
  fnD_ok (S := S0 K) F sc_TakeColumns_undoing fun n cdv A outer s H E hr =>
    have hnd := sc_TakeColumns_undoing.nd
    have tk : L2M.Takes false (cxOf (L2M.CX false P w) P w K mg base nm_TakeColumns_undoing "TakeColumns.undoing" (defScope st_TakeColumns_undoing) (He.ma K (He.ga K "TakeColumns") "undoing") cdv A outer s H E) (fun cls d _ H => E cls d H) := L2M.takes_of rfl rfl rfl rfl
    (pdss_one (pds_ret (pd_mk rfl C_PutColumns_init___mk hr (by decide) 1 (by decide) tk rfl (pda_cons (pd_fld rfl (T.n_at n) (pd_var (pv 0))) (pda_cons (pd_fld rfl (T.n_many n) (pd_var (pv 0))) pda_nil)))))
abbrev st_PutColumns_undoing : Stmt := inClass (top 40) 3
abbrev nm_PutColumns_undoing : List Str := ["self"]
theorem sc_PutColumns_undoing : FnScope nm_PutColumns_undoing ["self"] (defScope st_PutColumns_undoing) := ⟨rfl, rfl, rfl, by decide +kernel, rfl, by decide +kernel, by decide +kernel⟩
theorem ok_PutColumns_undoing {fd : FuncData} {dvs : List V} {kws : List (Str × V)} (T : Fx K mg) (C_TakeColumns_init___mk : MakD false P w K mg base (S0 K) 4 "TakeColumns" 3 G_TakeColumns_init__ dfl_TakeColumns_init__) (F : FunD K "undoing" "PutColumns.undoing" (defArgs st_PutColumns_undoing) (defBody st_PutColumns_undoing) (defScope st_PutColumns_undoing) dvs kws (He.ma K (He.ga K "PutColumns") "undoing") fd) :
    FnOk P w K mg base (L2M.CX false P w) 6 (He.ma K (He.ga K "PutColumns") "undoing") fd ["self"] (spD (S0 K) 1 G_PutColumns_undoing) :=
  fnD_ok (S := S0 K) F sc_PutColumns_undoing fun n cdv A outer s H E hr =>
    have hnd := sc_PutColumns_undoing.nd
    have tk : L2M.Takes false (cxOf (L2M.CX false P w) P w K mg base nm_PutColumns_undoing "PutColumns.undoing" (defScope st_PutColumns_undoing) (He.ma K (He.ga K "PutColumns") "undoing") cdv A outer s H E) (fun cls d _ H => E cls d H) := L2M.takes_of rfl rfl rfl rfl
    (pdss_one (pds_ret (pd_mk rfl C_TakeColumns_init___mk hr (by decide) 1 (by decide) tk rfl (pda_cons (pd_fld rfl (T.n_at n) (pd_var (pv 0))) (pda_cons (pd_fld rfl (T.n_many n) (pd_var (pv 0))) pda_nil)))))
abbrev st_TakeRows_undoing : Stmt := inClass (top 39) 3
abbrev nm_TakeRows_undoing : List Str := ["self"]
theorem sc_TakeRows_undoing : FnScope nm_TakeRows_undoing ["self"] (defScope st_TakeRows_undoing) := ⟨rfl, rfl, rfl, by decide +kernel, rfl, by decide +kernel, by decide +kernel⟩
theorem ok_TakeRows_undoing {fd : FuncData} {dvs : List V} {kws : List (Str × V)} (T : Fx K mg) (C_PutRows_init___mk : MakD false P w K mg base (S0 K) 4 "PutRows" 3 G_PutRows_init__ dfl_PutRows_init__) (F : FunD K "undoing" "TakeRows.undoing" (defArgs st_TakeRows_undoing) (defBody st_TakeRows_undoing) (defScope st_TakeRows_undoing) dvs kws (He.ma K (He.ga K "TakeRows") "undoing") fd) :
    FnOk P w K mg base (L2M.CX false P w) 6 (He.ma K (He.ga K "TakeRows") "undoing") fd ["self"] (spD (S0 K) 1 G_TakeRows_undoing) :=
  fnD_ok (S := S0 K) F sc_TakeRows_undoing fun n cdv A outer s H E hr =>
    have hnd := sc_TakeRows_undoing.nd
    have tk : L2M.Takes false (cxOf (L2M.CX false P w) P w K mg base nm_TakeRows_undoing "TakeRows.undoing" (defScope st_TakeRows_undoing) (He.ma K (He.ga K "TakeRows") "undoing") cdv A outer s H E) (fun cls d _ H => E cls d H) := L2M.takes_of rfl rfl rfl rfl
    (pdss_one (pds_ret (pd_mk rfl C_PutRows_init___mk hr (by decide) 1 (by decide) tk rfl (pda_cons (pd_fld rfl (T.n_at n) (pd_var (pv 0))) (pda_cons (pd_fld rfl (T.n_many n) (pd_var (pv 0))) pda_nil)))))
abbrev st_PutRows_undoing : Stmt := inClass (top 38) 3
abbrev nm_PutRows_undoing : List Str := ["self"]
theorem sc_PutRows_undoing : FnScope nm_PutRows_undoing ["self"] (defScope st_PutRows_undoing) := ⟨rfl, rfl, rfl, by decide +kernel, rfl, by decide +kernel, by decide +kernel⟩
theorem ok_PutRows_undoing {fd : FuncData} {dvs : List V} {kws : List (Str × V)} (T : Fx K mg) (C_TakeRows_init___mk : MakD false P w K mg base (S0 K) 4 "TakeRows" 3 G_TakeRows_init__ dfl_TakeRows_init__) (F : FunD K "undoing" "PutRows.undoing" (defArgs st_PutRows_undoing) (defBody st_PutRows_undoing) (defScope st_PutRows_undoing) dvs kws (He.ma K (He.ga K "PutRows") "undoing") fd) :
    FnOk P w K mg base (L2M.CX false P w) 6 (He.ma K (He.ga K "PutRows") "undoing") fd ["self"] (spD (S0 K) 1 G_PutRows_undoing) :=
  fnD_ok (S := S0 K) F sc_PutRows_undoing fun n cdv A outer s H E hr =>
    have hnd := sc_PutRows_undoing.nd
    have tk : L2M.Takes false (cxOf (L2M.CX false P w) P w K mg base nm_PutRows_undoing "PutRows.undoing" (defScope st_PutRows_undoing) (He.ma K (He.ga K "PutRows") "undoing") cdv A outer s H E) (fun cls d _ H => E cls d H) := L2M.takes_of rfl rfl rfl rfl
    (pdss_one (pds_ret (pd_mk rfl C_TakeRows_init___mk hr (by decide) 1 (by decide) tk rfl (pda_cons (pd_fld rfl (T.n_at n) (pd_var (pv 0))) (pda_cons (pd_fld rfl (T.n_many n) (pd_var (pv 0))) pda_nil)))))
abbrev st_PutRows_eq__ : Stmt := inClass (top 38) 0
abbrev nm_PutRows_eq__ : List Str := ["self", "other"]
theorem sc_PutRows_eq__ : FnScope nm_PutRows_eq__ ["self", "other"] (defScope st_PutRows_eq__) := ⟨rfl, rfl, rfl, by decide +kernel, rfl, by decide +kernel, by decide +kernel⟩
theorem ok_PutRows_eq__ {fd : FuncData} {dvs : List V} {kws : List (Str × V)} (T : Fx K mg)  (F : FunD K "__eq__" "PutRows.__eq__" (defArgs st_PutRows_eq__) (defBody st_PutRows_eq__) (defScope st_PutRows_eq__) dvs kws (He.ma K (He.ga K "PutRows") "__eq__") fd) :
    FnOk P w K mg base (L2M.CX false P w) 1 (He.ma K (He.ga K "PutRows") "__eq__") fd ["self", "other"] (spD (S0 K) 2 G_PutRows_eq__) :=
  fnD_ok (S := S0 K) F sc_PutRows_eq__ fun n cdv A outer s H E hr =>
    have hnd := sc_PutRows_eq__.nd
    have tk : L2M.Takes false (cxOf (L2M.CX false P w) P w K mg base nm_PutRows_eq__ "PutRows.__eq__" (defScope st_PutRows_eq__) (He.ma K (He.ga K "PutRows") "__eq__") cdv A outer s H E) (fun cls d _ H => E cls d H) := L2M.takes_of rfl rfl rfl rfl
    (pdss_one (pds_ret (pd_and rfl (pd_blt (pb_isi rfl (T.ins n) (T.k_PutRows n)) rfl T.f_isinstance (by decide +kernel) (pda_cons (pd_var (pv 1)) (pda_cons (pd_glo rfl T.g_PutRows) pda_nil))) (pd_one (pd_cmp (po_eq rfl hr.units) (pd_tup (pda_cons (pd_fld rfl (T.n_at n) (pd_var (pv 0))) (pda_cons (pd_fld rfl (T.n_many n) (pd_var (pv 0))) pda_nil))) (pd_tup (pda_cons (pd_fld rfl (T.n_at n) (pd_var (pv 1))) (pda_cons (pd_fld rfl (T.n_many n) (pd_var (pv 1))) pda_nil))) (nomark _))))))
abbrev st_TakeRows_eq__ : Stmt := inClass (top 39) 0
abbrev nm_TakeRows_eq__ : List Str := ["self", "other"]
theorem sc_TakeRows_eq__ : FnScope nm_TakeRows_eq__ ["self", "other"] (defScope st_TakeRows_eq__) := ⟨rfl, rfl, rfl, by decide +kernel, rfl, by decide +kernel, by decide +kernel⟩
theorem ok_TakeRows_eq__ {fd : FuncData} {dvs : List V} {kws : List (Str × V)} (T : Fx K mg)  (F : FunD K "__eq__" "TakeRows.__eq__" (defArgs st_TakeRows_eq__) (defBody st_TakeRows_eq__) (defScope st_TakeRows_eq__) dvs kws (He.ma K (He.ga K "TakeRows") "__eq__") fd) :
    FnOk P w K mg base (L2M.CX false P w) 1 (He.ma K (He.ga K "TakeRows") "__eq__") fd ["self", "other"] (spD (S0 K) 2 G_TakeRows_eq__) :=
  fnD_ok (S := S0 K) F sc_TakeRows_eq__ fun n cdv A outer s H E hr =>
    have hnd := sc_TakeRows_eq__.nd
    have tk : L2M.Takes false (cxOf (L2M.CX false P w) P w K mg base nm_TakeRows_eq__ "TakeRows.__eq__" (defScope st_TakeRows_eq__) (He.ma K (He.ga K "TakeRows") "__eq__") cdv A outer s H E) (fun cls d _ H => E cls d H) := L2M.takes_of rfl rfl rfl rfl
    (pdss_one (pds_ret (pd_and rfl (pd_blt (pb_isi rfl (T.ins n) (T.k_TakeRows n)) rfl T.f_isinstance (by decide +kernel) (pda_cons (pd_var (pv 1)) (pda_cons (pd_glo rfl T.g_TakeRows) pda_nil))) (pd_one (pd_cmp (po_eq rfl hr.units) (pd_tup (pda_cons (pd_fld rfl (T.n_at n) (pd_var (pv 0))) (pda_cons (pd_fld rfl (T.n_many n) (pd_var (pv 0))) pda_nil))) (pd_tup (pda_cons (pd_fld rfl (T.n_at n) (pd_var (pv 1))) (pda_cons (pd_fld rfl (T.n_many n) (pd_var (pv 1))) pda_nil))) (nomark _))))))
abbrev st_PutColumns_eq__ : Stmt := inClass (top 40) 0
abbrev nm_PutColumns_eq__ : List Str := ["self", "other"]
theorem sc_PutColumns_eq__ : FnScope nm_PutColumns_eq__ ["self", "other"] (defScope st_PutColumns_eq__) := ⟨rfl, rfl, rfl, by decide +kernel, rfl, by decide +kernel, by decide +kernel⟩
theorem ok_PutColumns_eq__ {fd : FuncData} {dvs : List V} {kws : List (Str × V)} (T : Fx K mg)  (F : FunD K "__eq__" "PutColumns.__eq__" (defArgs st_PutColumns_eq__) (defBody st_PutColumns_eq__) (defScope st_PutColumns_eq__) dvs kws (He.ma K (He.ga K "PutColumns") "__eq__") fd) :
    FnOk P w K mg base (L2M.CX false P w) 1 (He.ma K (He.ga K "PutColumns") "__eq__") fd ["self", "other"] (spD (S0 K) 2 G_PutColumns_eq__) :=
  fnD_ok (S := S0 K) F sc_PutColumns_eq__ fun n cdv A outer s H E hr =>
    have hnd := sc_PutColumns_eq__.nd
    have tk : L2M.Takes false (cxOf (L2M.CX false P w) P w K mg base nm_PutColumns_eq__ "PutColumns.__eq__" (defScope st_PutColumns_eq__) (He.ma K (He.ga K "PutColumns") "__eq__") cdv A outer s H E) (fun cls d _ H => E cls d H) := L2M.takes_of rfl rfl rfl rfl
    (pdss_one (pds_ret (pd_and rfl (pd_blt (pb_isi rfl (T.ins n) (T.k_PutColumns n)) rfl T.f_isinstance (by decide +kernel) (pda_cons (pd_var (pv 1)) (pda_cons (pd_glo rfl T.g_PutColumns) pda_nil))) (pd_one (pd_cmp (po_eq rfl hr.units) (pd_tup (pda_cons (pd_fld rfl (T.n_at n) (pd_var (pv 0))) (pda_cons (pd_fld rfl (T.n_many n) (pd_var (pv 0))) pda_nil))) (pd_tup (pda_cons (pd_fld rfl (T.n_at n) (pd_var (pv 1))) (pda_cons (pd_fld rfl (T.n_many n) (pd_var (pv 1))) pda_nil))) (nomark _))))))
abbrev st_TakeColumns_eq__ : Stmt := inClass (top 41) 0
abbrev nm_TakeColumns_eq__ : List Str := ["self", "other"]
theorem sc_TakeColumns_eq__ : FnScope nm_TakeColumns_eq__ ["self", "other"] (defScope st_TakeColumns_eq__) := ⟨rfl, rfl, rfl, by decide +kernel, rfl, by decide +kernel, by decide +kernel⟩
theorem ok_TakeColumns_eq__ {fd : FuncData} {dvs : List V} {kws : List (Str × V)} (T : Fx K mg)  (F : FunD K "__eq__" "TakeColumns.__eq__" (defArgs st_TakeColumns_eq__) (defBody st_TakeColumns_eq__) (defScope st_TakeColumns_eq__) dvs kws (He.ma K (He.ga K "TakeColumns") "__eq__") fd) :
    FnOk P w K mg base (L2M.CX false P w) 1 (He.ma K (He.ga K "TakeColumns") "__eq__") fd ["self", "other"] (spD (S0 K) 2 G_TakeColumns_eq__) :=
  fnD_ok (S := S0 K) F sc_TakeColumns_eq__ fun n cdv A outer s H E hr =>
    have hnd := sc_TakeColumns_eq__.nd
    have tk : L2M.Takes false (cxOf (L2M.CX false P w) P w K mg base nm_TakeColumns_eq__ "TakeColumns.__eq__" (defScope st_TakeColumns_eq__) (He.ma K (He.ga K "TakeColumns") "__eq__") cdv A outer s H E) (fun cls d _ H => E cls d H) := L2M.takes_of rfl rfl rfl rfl
    (pdss_one (pds_ret (pd_and rfl (pd_blt (pb_isi rfl (T.ins n) (T.k_TakeColumns n)) rfl T.f_isinstance (by decide +kernel) (pda_cons (pd_var (pv 1)) (pda_cons (pd_glo rfl T.g_TakeColumns) pda_nil))) (pd_one (pd_cmp (po_eq rfl hr.units) (pd_tup (pda_cons (pd_fld rfl (T.n_at n) (pd_var (pv 0))) (pda_cons (pd_fld rfl (T.n_many n) (pd_var (pv 0))) pda_nil))) (pd_tup (pda_cons (pd_fld rfl (T.n_at n) (pd_var (pv 1))) (pda_cons (pd_fld rfl (T.n_many n) (pd_var (pv 1))) pda_nil))) (nomark _))))))
abbrev st_law_alone : Stmt := top 49
abbrev nm_law_alone : List Str := ["_law_way", "_law_begin"]
theorem sc_law_alone : FnScope nm_law_alone ["_law_way", "_law_begin"] (defScope st_law_alone) := ⟨rfl, rfl, rfl, by decide +kernel, rfl, by decide +kernel, by decide +kernel⟩
theorem ok_law_alone {fd : FuncData} {dvs : List V} {kws : List (Str × V)} (T : Fx K mg) (C_PutRows_init___mk : MakD false P w K mg base (S0 K) 4 "PutRows" 3 G_PutRows_init__ dfl_PutRows_init__) (C_TakeRows_init___mkK0_at : MakK false P w K mg base (S0 K) 4 "TakeRows" 3 G_TakeRows_init__ 0 ["at"] [0, 1] dfl_TakeRows_init__) (C_PutColumns_init___mk : MakD false P w K mg base (S0 K) 4 "PutColumns" 3 G_PutColumns_init__ dfl_PutColumns_init__) (C_TakeColumns_init___mk : MakD false P w K mg base (S0 K) 4 "TakeColumns" 3 G_TakeColumns_init__ dfl_TakeColumns_init__) (F : FunD K "_law_alone" "_law_alone" (defArgs st_law_alone) (defBody st_law_alone) (defScope st_law_alone) dvs kws (He.ga K "_law_alone") fd) :
    FnOk P w K mg base (L2M.CX false P w) 6 (He.ga K "_law_alone") fd ["_law_way", "_law_begin"] (spD (S0 K) 2 G_law_alone) :=
  fnD_ok (S := S0 K) F sc_law_alone fun n cdv A outer s H E hr =>
    have hnd := sc_law_alone.nd
    have tk : L2M.Takes false (cxOf (L2M.CX false P w) P w K mg base nm_law_alone "_law_alone" (defScope st_law_alone) (He.ga K "_law_alone") cdv A outer s H E) (fun cls d _ H => E cls d H) := L2M.takes_of rfl rfl rfl rfl
    (pdss_cons (pds_if (pdt_cmp (po_eq rfl hr.units) (pd_var (pv 0)) pd_int (nomark _))
      (pdss_one (pds_ret (pd_mk rfl C_PutRows_init___mk hr (by decide) 0 (by decide) tk rfl (pda_cons (pd_var (pv 1)) pda_nil))))
      pdss_nil)
      (pdss_cons (pds_if (pdt_cmp (po_eq rfl hr.units) (pd_var (pv 0)) pd_int (nomark _))
      (pdss_one (pds_ret (pd_mkk0 rfl C_TakeRows_init___mkK0_at hr (by decide) tk rfl (pdk_cons (pd_var (pv 1)) pdk_nil))))
      pdss_nil)
      (pdss_cons (pds_if (pdt_cmp (po_eq rfl hr.units) (pd_var (pv 0)) pd_int (nomark _))
      (pdss_one (pds_ret (pd_mk rfl C_PutColumns_init___mk hr (by decide) 0 (by decide) tk rfl (pda_cons (pd_var (pv 1)) pda_nil))))
      pdss_nil)
      (pdss_one (pds_ret (pd_mk rfl C_TakeColumns_init___mk hr (by decide) 0 (by decide) tk rfl (pda_cons (pd_var (pv 1)) pda_nil)))))))
abbrev st_law_lines_right : Stmt := top 53
abbrev nm_law_lines_right : List Str := ["_law_way", "_law_begin", "_law_count", "_law_name", "_law_change", "_law_text", "_law_due", "_law_k"]
theorem sc_law_lines_right : FnScope nm_law_lines_right ["_law_way", "_law_begin", "_law_count"] (defScope st_law_lines_right) := ⟨rfl, rfl, rfl, by decide +kernel, rfl, by decide +kernel, by decide +kernel⟩
theorem ok_law_lines_right {fd : FuncData} {dvs : List V} {kws : List (Str × V)} (T : Fx K mg) (C_law_lines_fn : CalD false P w K mg base (S0 K) 6 "_law_lines" 3 G_law_lines dfl_law_lines) (C_TakeColumns_repr___mt : MetD false P w K mg base (S0 K) 1 "TakeColumns" "__repr__" 1 G_TakeColumns_repr__ dfl_TakeColumns_repr__) (C_PutColumns_repr___mt : MetD false P w K mg base (S0 K) 1 "PutColumns" "__repr__" 1 G_PutColumns_repr__ dfl_PutColumns_repr__) (C_TakeRows_repr___mt : MetD false P w K mg base (S0 K) 1 "TakeRows" "__repr__" 1 G_TakeRows_repr__ dfl_TakeRows_repr__) (C_PutRows_repr___mt : MetD false P w K mg base (S0 K) 1 "PutRows" "__repr__" 1 G_PutRows_repr__ dfl_PutRows_repr__) (C_law_kinds_fn : CalD false P w K mg base (S0 K) 1 "_law_kinds" 1 G_law_kinds dfl_law_kinds) (C_TakeColumns_undoing_mt : MetD false P w K mg base (S0 K) 6 "TakeColumns" "undoing" 1 G_TakeColumns_undoing dfl_TakeColumns_undoing) (C_PutColumns_undoing_mt : MetD false P w K mg base (S0 K) 6 "PutColumns" "undoing" 1 G_PutColumns_undoing dfl_PutColumns_undoing) (C_TakeRows_undoing_mt : MetD false P w K mg base (S0 K) 6 "TakeRows" "undoing" 1 G_TakeRows_undoing dfl_TakeRows_undoing) (C_PutRows_undoing_mt : MetD false P w K mg base (S0 K) 6 "PutRows" "undoing" 1 G_PutRows_undoing dfl_PutRows_undoing) (C_PutRows_eq___mt : MetD false P w K mg base (S0 K) 1 "PutRows" "__eq__" 2 G_PutRows_eq__ dfl_PutRows_eq__) (C_TakeRows_eq___mt : MetD false P w K mg base (S0 K) 1 "TakeRows" "__eq__" 2 G_TakeRows_eq__ dfl_TakeRows_eq__) (C_PutColumns_eq___mt : MetD false P w K mg base (S0 K) 1 "PutColumns" "__eq__" 2 G_PutColumns_eq__ dfl_PutColumns_eq__) (C_TakeColumns_eq___mt : MetD false P w K mg base (S0 K) 1 "TakeColumns" "__eq__" 2 G_TakeColumns_eq__ dfl_TakeColumns_eq__) (C_law_alone_fn : CalD false P w K mg base (S0 K) 6 "_law_alone" 2 G_law_alone dfl_law_alone) (F : FunD K "_law_lines_right" "_law_lines_right" (defArgs st_law_lines_right) (defBody st_law_lines_right) (defScope st_law_lines_right) dvs kws (He.ga K "_law_lines_right") fd) :
    FnOk P w K mg base (L2M.CX false P w) 7 (He.ga K "_law_lines_right") fd ["_law_way", "_law_begin", "_law_count"] (spD (S0 K) 3 G_law_lines_right) :=
  fnD_ok (S := S0 K) F sc_law_lines_right fun n cdv A outer s H E hr =>
    have hnd := sc_law_lines_right.nd
    have tk : L2M.Takes false (cxOf (L2M.CX false P w) P w K mg base nm_law_lines_right "_law_lines_right" (defScope st_law_lines_right) (He.ga K "_law_lines_right") cdv A outer s H E) (fun cls d _ H => E cls d H) := L2M.takes_of rfl rfl rfl rfl
    (pdss_cons (pds_set hnd rfl (by first | exact Or.inl rfl | exact Or.inr rfl) (pd_ix rfl (pd_lst (pda_cons (pd_str (by decide +kernel)) (pda_cons (pd_str (by decide +kernel)) (pda_cons (pd_str (by decide +kernel)) (pda_cons (pd_str (by decide +kernel)) pda_nil))))) (pd_var (pv 0)) (fun _ _ => rfl)))
      (pdss_cons (pds_set hnd rfl (by first | exact Or.inl rfl | exact Or.inr rfl) (pd_c C_law_lines_fn hr (by decide) 0 (by decide) tk rfl (pda_cons (pd_var (pv 0)) (pda_cons (pd_var (pv 1)) (pda_cons (pd_var (pv 2)) pda_nil)))))
      (pdss_cons (pds_set hnd rfl (by first | exact Or.inl rfl | exact Or.inr rfl) (pd_op po_add (pd_op po_add (pd_op po_add (pd_op po_add (pd_op po_add (pd_var (pv 3)) (pd_str (by decide +kernel))) (pd_bty (pb_str2) rfl T.f_str (by decide +kernel) (pda_cons (pd_var (pv 1)) pda_nil))) (pd_str (by decide +kernel))) (pd_bty (pb_str2) rfl T.f_str (by decide +kernel) (pda_cons (pd_var (pv 2)) pda_nil))) (pd_str (by decide +kernel))))
      (pdss_cons (pds_if (PDW.pt (pdw_or (pdt_cmp (po_ne rfl hr.units) (pd_tup (pda_cons (pd_fld rfl (T.n_at n) (pd_var (pv 4))) (pda_cons (pd_fld rfl (T.n_many n) (pd_var (pv 4))) pda_nil))) (pd_tup (pda_cons (pd_var (pv 1)) (pda_cons (pd_var (pv 2)) pda_nil))) (nomark _)) (pdw_or1 (pdt_cmp (po_ne rfl hr.units) (pd_obSs (tb := [("PutRows", G_PutRows_repr__), ("TakeRows", G_TakeRows_repr__), ("PutColumns", G_PutColumns_repr__), ("TakeColumns", G_TakeColumns_repr__)]) (by simp) (tb_cons (pd_reprO rfl C_PutRows_repr___mt hr (by decide) tk rfl T.f_repr (pd_var (pv 4))) (tb_cons (pd_reprO rfl C_TakeRows_repr___mt hr (by decide) tk rfl T.f_repr (pd_var (pv 4))) (tb_cons (pd_reprO rfl C_PutColumns_repr___mt hr (by decide) tk rfl T.f_repr (pd_var (pv 4))) (tb_cons (pd_reprO rfl C_TakeColumns_repr___mt hr (by decide) tk rfl T.f_repr (pd_var (pv 4))) tb_nil))))) (pd_var (pv 5)) (nomark _)))))
      (pdss_one (pds_ret pd_bl))
      pdss_nil)
      (pdss_cons (pds_setLc (own := [("_law_k", 7)]) rfl hnd rfl rfl (sw_true rfl rfl rfl (by decide +kernel)) (pdi_range1 rfl T.f_range (pda_cons pd_int pda_nil)) (blkOk_by (own := [("_law_k", 7)]) (N := ["_law_way", "_law_begin", "_law_count", "_law_name", "_law_change", "_law_text", "_law_due", "_law_k"]) (sc := defScope st_law_lines_right) (by decide +kernel)) (by decide) (fun _ _ _ _ _ => (pdg_name hnd rfl (by first | exact Or.inl rfl | exact Or.inr rfl))) (fun _ _ _ _ _ => pdts_nil) (fun _ _ _ _ _ => (pd_cmp (po_in rfl) (pd_var (pv 7)) (pd_tup (pda_cons (pd_var (pv 0)) (pda_cons pd_int pda_nil))) rfl)))
      (pdss_cons (pds_if (PDW.pt (pdw_or (pdt_cmp (po_ne rfl hr.units) (pd_c C_law_kinds_fn hr (by decide) 0 (by decide) tk rfl (pda_cons (pd_var (pv 4)) pda_nil)) (pd_var (pv 6)) (nomark _)) (pdw_or1 (pdt_nes (tb := [("PutRows", G_PutRows_eq__), ("TakeRows", G_TakeRows_eq__), ("PutColumns", G_PutColumns_eq__), ("TakeColumns", G_TakeColumns_eq__)]) (by simp) (tb_cons (pdt_ne rfl C_PutRows_eq___mt hr (by decide) tk (T.ins n) (T.nf_PutRows n) (T.ne_PutRows n) (pd_meths (tb := [("PutRows", 1, G_PutRows_undoing, List.drop 0 dfl_PutRows_undoing), ("TakeRows", 1, G_TakeRows_undoing, List.drop 0 dfl_TakeRows_undoing), ("PutColumns", 1, G_PutColumns_undoing, List.drop 0 dfl_PutColumns_undoing), ("TakeColumns", 1, G_TakeColumns_undoing, List.drop 0 dfl_TakeColumns_undoing)]) (by simp) (tb_cons (pd_m0 rfl C_PutRows_undoing_mt hr (by decide) 0 (by decide) tk (pd_var (pv 4)) ) (tb_cons (pd_m0 rfl C_TakeRows_undoing_mt hr (by decide) 0 (by decide) tk (pd_var (pv 4)) ) (tb_cons (pd_m0 rfl C_PutColumns_undoing_mt hr (by decide) 0 (by decide) tk (pd_var (pv 4)) ) (tb_cons (pd_m0 rfl C_TakeColumns_undoing_mt hr (by decide) 0 (by decide) tk (pd_var (pv 4)) ) tb_nil))))) (pd_c C_law_lines_fn hr (by decide) 0 (by decide) tk rfl (pda_cons (pd_ix rfl (pd_lst (pda_cons pd_int (pda_cons pd_int (pda_cons pd_int (pda_cons pd_int pda_nil))))) (pd_var (pv 0)) (fun _ _ => rfl)) (pda_cons (pd_var (pv 1)) (pda_cons (pd_var (pv 2)) pda_nil)))) (nomark _)) (tb_cons (pdt_ne rfl C_TakeRows_eq___mt hr (by decide) tk (T.ins n) (T.nf_TakeRows n) (T.ne_TakeRows n) (pd_meths (tb := [("PutRows", 1, G_PutRows_undoing, List.drop 0 dfl_PutRows_undoing), ("TakeRows", 1, G_TakeRows_undoing, List.drop 0 dfl_TakeRows_undoing), ("PutColumns", 1, G_PutColumns_undoing, List.drop 0 dfl_PutColumns_undoing), ("TakeColumns", 1, G_TakeColumns_undoing, List.drop 0 dfl_TakeColumns_undoing)]) (by simp) (tb_cons (pd_m0 rfl C_PutRows_undoing_mt hr (by decide) 0 (by decide) tk (pd_var (pv 4)) ) (tb_cons (pd_m0 rfl C_TakeRows_undoing_mt hr (by decide) 0 (by decide) tk (pd_var (pv 4)) ) (tb_cons (pd_m0 rfl C_PutColumns_undoing_mt hr (by decide) 0 (by decide) tk (pd_var (pv 4)) ) (tb_cons (pd_m0 rfl C_TakeColumns_undoing_mt hr (by decide) 0 (by decide) tk (pd_var (pv 4)) ) tb_nil))))) (pd_c C_law_lines_fn hr (by decide) 0 (by decide) tk rfl (pda_cons (pd_ix rfl (pd_lst (pda_cons pd_int (pda_cons pd_int (pda_cons pd_int (pda_cons pd_int pda_nil))))) (pd_var (pv 0)) (fun _ _ => rfl)) (pda_cons (pd_var (pv 1)) (pda_cons (pd_var (pv 2)) pda_nil)))) (nomark _)) (tb_cons (pdt_ne rfl C_PutColumns_eq___mt hr (by decide) tk (T.ins n) (T.nf_PutColumns n) (T.ne_PutColumns n) (pd_meths (tb := [("PutRows", 1, G_PutRows_undoing, List.drop 0 dfl_PutRows_undoing), ("TakeRows", 1, G_TakeRows_undoing, List.drop 0 dfl_TakeRows_undoing), ("PutColumns", 1, G_PutColumns_undoing, List.drop 0 dfl_PutColumns_undoing), ("TakeColumns", 1, G_TakeColumns_undoing, List.drop 0 dfl_TakeColumns_undoing)]) (by simp) (tb_cons (pd_m0 rfl C_PutRows_undoing_mt hr (by decide) 0 (by decide) tk (pd_var (pv 4)) ) (tb_cons (pd_m0 rfl C_TakeRows_undoing_mt hr (by decide) 0 (by decide) tk (pd_var (pv 4)) ) (tb_cons (pd_m0 rfl C_PutColumns_undoing_mt hr (by decide) 0 (by decide) tk (pd_var (pv 4)) ) (tb_cons (pd_m0 rfl C_TakeColumns_undoing_mt hr (by decide) 0 (by decide) tk (pd_var (pv 4)) ) tb_nil))))) (pd_c C_law_lines_fn hr (by decide) 0 (by decide) tk rfl (pda_cons (pd_ix rfl (pd_lst (pda_cons pd_int (pda_cons pd_int (pda_cons pd_int (pda_cons pd_int pda_nil))))) (pd_var (pv 0)) (fun _ _ => rfl)) (pda_cons (pd_var (pv 1)) (pda_cons (pd_var (pv 2)) pda_nil)))) (nomark _)) (tb_cons (pdt_ne rfl C_TakeColumns_eq___mt hr (by decide) tk (T.ins n) (T.nf_TakeColumns n) (T.ne_TakeColumns n) (pd_meths (tb := [("PutRows", 1, G_PutRows_undoing, List.drop 0 dfl_PutRows_undoing), ("TakeRows", 1, G_TakeRows_undoing, List.drop 0 dfl_TakeRows_undoing), ("PutColumns", 1, G_PutColumns_undoing, List.drop 0 dfl_PutColumns_undoing), ("TakeColumns", 1, G_TakeColumns_undoing, List.drop 0 dfl_TakeColumns_undoing)]) (by simp) (tb_cons (pd_m0 rfl C_PutRows_undoing_mt hr (by decide) 0 (by decide) tk (pd_var (pv 4)) ) (tb_cons (pd_m0 rfl C_TakeRows_undoing_mt hr (by decide) 0 (by decide) tk (pd_var (pv 4)) ) (tb_cons (pd_m0 rfl C_PutColumns_undoing_mt hr (by decide) 0 (by decide) tk (pd_var (pv 4)) ) (tb_cons (pd_m0 rfl C_TakeColumns_undoing_mt hr (by decide) 0 (by decide) tk (pd_var (pv 4)) ) tb_nil))))) (pd_c C_law_lines_fn hr (by decide) 0 (by decide) tk rfl (pda_cons (pd_ix rfl (pd_lst (pda_cons pd_int (pda_cons pd_int (pda_cons pd_int (pda_cons pd_int pda_nil))))) (pd_var (pv 0)) (fun _ _ => rfl)) (pda_cons (pd_var (pv 1)) (pda_cons (pd_var (pv 2)) pda_nil)))) (nomark _)) tb_nil))))))))
      (pdss_one (pds_ret pd_bl))
      pdss_nil)
      (pdss_cons (pds_if (PDW.pt (pdw_or (pdt_nes (tb := [("PutRows", G_PutRows_eq__), ("TakeRows", G_TakeRows_eq__), ("PutColumns", G_PutColumns_eq__), ("TakeColumns", G_TakeColumns_eq__)]) (by simp) (tb_cons (pdt_ne rfl C_PutRows_eq___mt hr (by decide) tk (T.ins n) (T.nf_PutRows n) (T.ne_PutRows n) (pd_var (pv 4)) (pd_c C_law_lines_fn hr (by decide) 0 (by decide) tk rfl (pda_cons (pd_var (pv 0)) (pda_cons (pd_var (pv 1)) (pda_cons (pd_var (pv 2)) pda_nil)))) (nomark _)) (tb_cons (pdt_ne rfl C_TakeRows_eq___mt hr (by decide) tk (T.ins n) (T.nf_TakeRows n) (T.ne_TakeRows n) (pd_var (pv 4)) (pd_c C_law_lines_fn hr (by decide) 0 (by decide) tk rfl (pda_cons (pd_var (pv 0)) (pda_cons (pd_var (pv 1)) (pda_cons (pd_var (pv 2)) pda_nil)))) (nomark _)) (tb_cons (pdt_ne rfl C_PutColumns_eq___mt hr (by decide) tk (T.ins n) (T.nf_PutColumns n) (T.ne_PutColumns n) (pd_var (pv 4)) (pd_c C_law_lines_fn hr (by decide) 0 (by decide) tk rfl (pda_cons (pd_var (pv 0)) (pda_cons (pd_var (pv 1)) (pda_cons (pd_var (pv 2)) pda_nil)))) (nomark _)) (tb_cons (pdt_ne rfl C_TakeColumns_eq___mt hr (by decide) tk (T.ins n) (T.nf_TakeColumns n) (T.ne_TakeColumns n) (pd_var (pv 4)) (pd_c C_law_lines_fn hr (by decide) 0 (by decide) tk rfl (pda_cons (pd_var (pv 0)) (pda_cons (pd_var (pv 1)) (pda_cons (pd_var (pv 2)) pda_nil)))) (nomark _)) tb_nil))))) (pdw_or1 (pdt_owns (tb := [("PutRows", G_PutRows_eq__), ("TakeRows", G_TakeRows_eq__), ("PutColumns", G_PutColumns_eq__), ("TakeColumns", G_TakeColumns_eq__)]) (by simp) (tb_cons (pdt_own rfl C_PutRows_eq___mt hr (by decide) tk (T.ins n) (T.nf_PutRows n) (pd_var (pv 4)) (pd_c C_law_lines_fn hr (by decide) 0 (by decide) tk rfl (pda_cons (pd_var (pv 0)) (pda_cons (pd_op po_add (pd_var (pv 1)) pd_int) (pda_cons (pd_var (pv 2)) pda_nil)))) (nomark _)) (tb_cons (pdt_own rfl C_TakeRows_eq___mt hr (by decide) tk (T.ins n) (T.nf_TakeRows n) (pd_var (pv 4)) (pd_c C_law_lines_fn hr (by decide) 0 (by decide) tk rfl (pda_cons (pd_var (pv 0)) (pda_cons (pd_op po_add (pd_var (pv 1)) pd_int) (pda_cons (pd_var (pv 2)) pda_nil)))) (nomark _)) (tb_cons (pdt_own rfl C_PutColumns_eq___mt hr (by decide) tk (T.ins n) (T.nf_PutColumns n) (pd_var (pv 4)) (pd_c C_law_lines_fn hr (by decide) 0 (by decide) tk rfl (pda_cons (pd_var (pv 0)) (pda_cons (pd_op po_add (pd_var (pv 1)) pd_int) (pda_cons (pd_var (pv 2)) pda_nil)))) (nomark _)) (tb_cons (pdt_own rfl C_TakeColumns_eq___mt hr (by decide) tk (T.ins n) (T.nf_TakeColumns n) (pd_var (pv 4)) (pd_c C_law_lines_fn hr (by decide) 0 (by decide) tk rfl (pda_cons (pd_var (pv 0)) (pda_cons (pd_op po_add (pd_var (pv 1)) pd_int) (pda_cons (pd_var (pv 2)) pda_nil)))) (nomark _)) tb_nil))))))))
      (pdss_one (pds_ret pd_bl))
      pdss_nil)
      (pdss_cons (pds_if (pdt_cmp (po_in rfl) pd_bl (pd_lc (own := [("_law_k", 7)]) rfl (by exact hnd) (pdi_range1 rfl T.f_range (pda_cons pd_int pda_nil)) (blkOk_by (own := [("_law_k", 7)]) (N := ["_law_way", "_law_begin", "_law_count", "_law_name", "_law_change", "_law_text", "_law_due", "_law_k"]) (sc := defScope st_law_lines_right) (by decide +kernel)) (by decide) (fun _ _ _ _ _ => (pdg_name hnd rfl (by first | exact Or.inl rfl | exact Or.inr rfl))) (fun _ _ _ _ _ => (pdts_one (pdt_cmp (po_ne rfl hr.units) (pd_var (pv 7)) (pd_var (pv 0)) (nomark _)))) (fun _ _ _ _ _ => (pd_owns (tb := [("PutRows", G_PutRows_eq__), ("TakeRows", G_TakeRows_eq__), ("PutColumns", G_PutColumns_eq__), ("TakeColumns", G_TakeColumns_eq__)]) (by simp) (tb_cons (pd_own rfl C_PutRows_eq___mt hr (by decide) takesNo (T.ins n) (T.nf_PutRows n) (pd_var (pv 4)) (pd_c C_law_lines_fn hr (by decide) 0 (by decide) takesNo rfl (pda_cons (pd_var (pv 7)) (pda_cons (pd_var (pv 1)) (pda_cons (pd_var (pv 2)) pda_nil)))) (nomark _)) (tb_cons (pd_own rfl C_TakeRows_eq___mt hr (by decide) takesNo (T.ins n) (T.nf_TakeRows n) (pd_var (pv 4)) (pd_c C_law_lines_fn hr (by decide) 0 (by decide) takesNo rfl (pda_cons (pd_var (pv 7)) (pda_cons (pd_var (pv 1)) (pda_cons (pd_var (pv 2)) pda_nil)))) (nomark _)) (tb_cons (pd_own rfl C_PutColumns_eq___mt hr (by decide) takesNo (T.ins n) (T.nf_PutColumns n) (pd_var (pv 4)) (pd_c C_law_lines_fn hr (by decide) 0 (by decide) takesNo rfl (pda_cons (pd_var (pv 7)) (pda_cons (pd_var (pv 1)) (pda_cons (pd_var (pv 2)) pda_nil)))) (nomark _)) (tb_cons (pd_own rfl C_TakeColumns_eq___mt hr (by decide) takesNo (T.ins n) (T.nf_TakeColumns n) (pd_var (pv 4)) (pd_c C_law_lines_fn hr (by decide) 0 (by decide) takesNo rfl (pda_cons (pd_var (pv 7)) (pda_cons (pd_var (pv 1)) (pda_cons (pd_var (pv 2)) pda_nil)))) (nomark _)) tb_nil))))))) rfl)
      (pdss_one (pds_ret pd_bl))
      pdss_nil)
      (pdss_one (pds_ret (pd_and rfl (pd_nes (tb := [("PutRows", G_PutRows_eq__), ("TakeRows", G_TakeRows_eq__), ("PutColumns", G_PutColumns_eq__), ("TakeColumns", G_TakeColumns_eq__)]) (by simp) (tb_cons (pd_ne rfl C_PutRows_eq___mt hr (by decide) tk (T.ins n) (T.nf_PutRows n) (T.ne_PutRows n) (pd_var (pv 4)) (pd_c C_law_lines_fn hr (by decide) 0 (by decide) tk rfl (pda_cons (pd_var (pv 0)) (pda_cons (pd_var (pv 1)) (pda_cons (pd_op po_add (pd_var (pv 2)) pd_int) pda_nil)))) (nomark _)) (tb_cons (pd_ne rfl C_TakeRows_eq___mt hr (by decide) tk (T.ins n) (T.nf_TakeRows n) (T.ne_TakeRows n) (pd_var (pv 4)) (pd_c C_law_lines_fn hr (by decide) 0 (by decide) tk rfl (pda_cons (pd_var (pv 0)) (pda_cons (pd_var (pv 1)) (pda_cons (pd_op po_add (pd_var (pv 2)) pd_int) pda_nil)))) (nomark _)) (tb_cons (pd_ne rfl C_PutColumns_eq___mt hr (by decide) tk (T.ins n) (T.nf_PutColumns n) (T.ne_PutColumns n) (pd_var (pv 4)) (pd_c C_law_lines_fn hr (by decide) 0 (by decide) tk rfl (pda_cons (pd_var (pv 0)) (pda_cons (pd_var (pv 1)) (pda_cons (pd_op po_add (pd_var (pv 2)) pd_int) pda_nil)))) (nomark _)) (tb_cons (pd_ne rfl C_TakeColumns_eq___mt hr (by decide) tk (T.ins n) (T.nf_TakeColumns n) (T.ne_TakeColumns n) (pd_var (pv 4)) (pd_c C_law_lines_fn hr (by decide) 0 (by decide) tk rfl (pda_cons (pd_var (pv 0)) (pda_cons (pd_var (pv 1)) (pda_cons (pd_op po_add (pd_var (pv 2)) pd_int) pda_nil)))) (nomark _)) tb_nil))))) (pd_one (pd_owns (tb := [("PutRows", G_PutRows_eq__), ("TakeRows", G_TakeRows_eq__), ("PutColumns", G_PutColumns_eq__), ("TakeColumns", G_TakeColumns_eq__)]) (by simp) (tb_cons (pd_own rfl C_PutRows_eq___mt hr (by decide) tk (T.ins n) (T.nf_PutRows n) (pd_c C_law_alone_fn hr (by decide) 0 (by decide) tk rfl (pda_cons (pd_var (pv 0)) (pda_cons (pd_var (pv 1)) pda_nil))) (pd_c C_law_lines_fn hr (by decide) 0 (by decide) tk rfl (pda_cons (pd_var (pv 0)) (pda_cons (pd_var (pv 1)) (pda_cons pd_int pda_nil)))) (nomark _)) (tb_cons (pd_own rfl C_TakeRows_eq___mt hr (by decide) tk (T.ins n) (T.nf_TakeRows n) (pd_c C_law_alone_fn hr (by decide) 0 (by decide) tk rfl (pda_cons (pd_var (pv 0)) (pda_cons (pd_var (pv 1)) pda_nil))) (pd_c C_law_lines_fn hr (by decide) 0 (by decide) tk rfl (pda_cons (pd_var (pv 0)) (pda_cons (pd_var (pv 1)) (pda_cons pd_int pda_nil)))) (nomark _)) (tb_cons (pd_own rfl C_PutColumns_eq___mt hr (by decide) tk (T.ins n) (T.nf_PutColumns n) (pd_c C_law_alone_fn hr (by decide) 0 (by decide) tk rfl (pda_cons (pd_var (pv 0)) (pda_cons (pd_var (pv 1)) pda_nil))) (pd_c C_law_lines_fn hr (by decide) 0 (by decide) tk rfl (pda_cons (pd_var (pv 0)) (pda_cons (pd_var (pv 1)) (pda_cons pd_int pda_nil)))) (nomark _)) (tb_cons (pd_own rfl C_TakeColumns_eq___mt hr (by decide) tk (T.ins n) (T.nf_TakeColumns n) (pd_c C_law_alone_fn hr (by decide) 0 (by decide) tk rfl (pda_cons (pd_var (pv 0)) (pda_cons (pd_var (pv 1)) pda_nil))) (pd_c C_law_lines_fn hr (by decide) 0 (by decide) tk rfl (pda_cons (pd_var (pv 0)) (pda_cons (pd_var (pv 1)) (pda_cons pd_int pda_nil)))) (nomark _)) tb_nil)))))))))))))))))
abbrev st_Move_checked : Stmt := inClass (top 29) 0
abbrev nm_Move_checked : List Str := ["self", "numbers", "number"]
theorem sc_Move_checked : FnScope nm_Move_checked ["self", "numbers"] (defScope st_Move_checked) := ⟨rfl, rfl, rfl, by decide +kernel, rfl, by decide +kernel, by decide +kernel⟩
theorem ok_Move_checked {fd : FuncData} {dvs : List V} {kws : List (Str × V)} (T : Fx K mg) (C_is_count_fn : CalD false P w K mg base (S0 K) 2 "is_count" 1 G_is_count dfl_is_count) (F : FunD K "checked" "Change.checked" (defArgs st_Move_checked) (defBody st_Move_checked) (defScope st_Move_checked) dvs kws (He.ma K (He.ga K "Move") "checked") fd) :
    FnOk P w K mg base (L2M.CX false P w) 3 (He.ma K (He.ga K "Move") "checked") fd ["self", "numbers"] (spD (S0 K) 2 G_Change_checked) :=
  fnD_ok (S := S0 K) F sc_Move_checked fun n cdv A outer s H E hr =>
    have hnd := sc_Move_checked.nd
    have tk : L2M.Takes false (cxOf (L2M.CX false P w) P w K mg base nm_Move_checked "Change.checked" (defScope st_Move_checked) (He.ma K (He.ga K "Move") "checked") cdv A outer s H E) (fun cls d _ H => E cls d H) := L2M.takes_of rfl rfl rfl rfl
    (pdss_one (pds_if (pdt_not (pdt_tru rfl (pd_blt (pb_all rfl rfl) rfl T.f_all (by decide +kernel) (pda_cons (pd_lc (own := [("number", 2)]) rfl (by exact hnd) (pdi_any rfl (pd_var (pv 1))) (blkOk_by (own := [("number", 2)]) (N := ["self", "numbers", "number"]) (sc := defScope st_Move_checked) (by decide +kernel)) (by decide) (fun _ _ _ _ _ => (pdg_name hnd rfl (by first | exact Or.inl rfl | exact Or.inr rfl))) (fun _ _ _ _ _ => pdts_nil) (fun _ _ _ _ _ => (pd_c C_is_count_fn hr (by decide) 0 (by decide) takesNo rfl (pda_cons (pd_var (pv 2)) pda_nil)))) pda_nil))))
      (pdss_one (pds_raise rfl (T.x_NoChange n) rfl tk rfl T.g_NoChange))
      pdss_nil))
abbrev st_Move_init__ : Stmt := inClass (top 42) 0
abbrev nm_Move_init__ : List Str := ["self", "block", "row", "column"]
theorem sc_Move_init__ : FnScope nm_Move_init__ ["self", "block", "row", "column"] (defScope st_Move_init__) := ⟨rfl, rfl, rfl, by decide +kernel, rfl, by decide +kernel, by decide +kernel⟩
theorem ok_Move_init__ {fd : FuncData} {dvs : List V} {kws : List (Str × V)} (T : Fx K mg) (C_Move_checked_mt : MetD false P w K mg base (S0 K) 3 "Move" "checked" 2 G_Change_checked dfl_Change_checked) (F : FunD K "__init__" "Move.__init__" (defArgs st_Move_init__) (defBody st_Move_init__) (defScope st_Move_init__) dvs kws (He.ma K (He.ga K "Move") "__init__") fd) :
    FnOk P w K mg base (L2M.CX false P w) 4 (He.ma K (He.ga K "Move") "__init__") fd ["self", "block", "row", "column"] (spD (S0 K) 4 G_Move_init__) :=
  fnD_ok (S := S0 K) F sc_Move_init__ fun n cdv A outer s H E hr =>
    have hnd := sc_Move_init__.nd
    have tk : L2M.Takes false (cxOf (L2M.CX false P w) P w K mg base nm_Move_init__ "Move.__init__" (defScope st_Move_init__) (He.ma K (He.ga K "Move") "__init__") cdv A outer s H E) (fun cls d _ H => E cls d H) := L2M.takes_of rfl rfl rfl rfl
    (pdss_cons (pds_if (PDW.pt (pdw_or (pdt_not (pdt_tru rfl (pd_blt (pb_isi rfl (T.ins n) (T.k_Block n)) rfl T.f_isinstance (by decide +kernel) (pda_cons (pd_var (pv 1)) (pda_cons (pd_glo rfl T.g_Block) pda_nil))))) (pdw_or (pdt_cmp po_is (pd_fld rfl (T.n_bottom n) (pd_var (pv 1))) pd_non (nomark _)) (pdw_or1 (pdt_cmp po_is (pd_fld rfl (T.n_right n) (pd_var (pv 1))) pd_non (nomark _))))))
      (pdss_one (pds_raise rfl (T.x_NoChange n) rfl tk rfl T.g_NoChange))
      pdss_nil)
      (pdss_cons (pds_exp (pd_m rfl C_Move_checked_mt hr (by decide) 0 (by decide) tk (pd_var (pv 0)) (pda_cons (pd_lst (pda_cons (pd_var (pv 2)) (pda_cons (pd_var (pv 3)) pda_nil))) pda_nil)))
      (pdss_cons (pds_fld rfl (T.n_block n) (pd_var (pv 0)) (pd_var (pv 1)))
      (pdss_cons (pds_fld rfl (T.n_row n) (pd_var (pv 0)) (pd_var (pv 2)))
      (pdss_one (pds_fld rfl (T.n_column n) (pd_var (pv 0)) (pd_var (pv 3))))))))
abbrev st_is_end : Stmt := top 17
abbrev nm_is_end : List Str := ["first", "last"]
theorem sc_is_end : FnScope nm_is_end ["first", "last"] (defScope st_is_end) := ⟨rfl, rfl, rfl, by decide +kernel, rfl, by decide +kernel, by decide +kernel⟩
theorem ok_is_end {fd : FuncData} {dvs : List V} {kws : List (Str × V)} (T : Fx K mg) (C_is_count_fn : CalD false P w K mg base (S0 K) 2 "is_count" 1 G_is_count dfl_is_count) (F : FunD K "is_end" "is_end" (defArgs st_is_end) (defBody st_is_end) (defScope st_is_end) dvs kws (He.ga K "is_end") fd) :
    FnOk P w K mg base (L2M.CX false P w) 3 (He.ga K "is_end") fd ["first", "last"] (spD (S0 K) 2 G_is_end) :=
  fnD_ok (S := S0 K) F sc_is_end fun n cdv A outer s H E hr =>
    have hnd := sc_is_end.nd
    have tk : L2M.Takes false (cxOf (L2M.CX false P w) P w K mg base nm_is_end "is_end" (defScope st_is_end) (He.ga K "is_end") cdv A outer s H E) (fun cls d _ H => E cls d H) := L2M.takes_of rfl rfl rfl rfl
    (pdss_one (pds_ret (pd_or rfl (pd_cmp po_is (pd_var (pv 1)) pd_non (nomark _)) (pd_one (pd_and rfl (pd_c C_is_count_fn hr (by decide) 0 (by decide) tk rfl (pda_cons (pd_var (pv 1)) pda_nil)) (pd_one (pd_cmp po_ge (pd_var (pv 1)) (pd_var (pv 0)) (nomark _))))))))
abbrev st_Block_init__ : Stmt := inClass (top 22) 0
abbrev nm_Block_init__ : List Str := ["self", "top", "left", "bottom", "right"]
theorem sc_Block_init__ : FnScope nm_Block_init__ ["self", "top", "left", "bottom", "right"] (defScope st_Block_init__) := ⟨rfl, rfl, rfl, by decide +kernel, rfl, by decide +kernel, by decide +kernel⟩
theorem ok_Block_init__ {fd : FuncData} {dvs : List V} {kws : List (Str × V)} (T : Fx K mg) (C_is_count_fn : CalD false P w K mg base (S0 K) 2 "is_count" 1 G_is_count dfl_is_count) (C_is_end_fn : CalD false P w K mg base (S0 K) 3 "is_end" 2 G_is_end dfl_is_end) (F : FunD K "__init__" "Block.__init__" (defArgs st_Block_init__) (defBody st_Block_init__) (defScope st_Block_init__) dvs kws (He.ma K (He.ga K "Block") "__init__") fd) :
    FnOk P w K mg base (L2M.CX false P w) 4 (He.ma K (He.ga K "Block") "__init__") fd ["self", "top", "left", "bottom", "right"] (spD (S0 K) 5 G_Block_init__) :=
  fnD_ok (S := S0 K) F sc_Block_init__ fun n cdv A outer s H E hr =>
    have hnd := sc_Block_init__.nd
    have tk : L2M.Takes false (cxOf (L2M.CX false P w) P w K mg base nm_Block_init__ "Block.__init__" (defScope st_Block_init__) (He.ma K (He.ga K "Block") "__init__") cdv A outer s H E) (fun cls d _ H => E cls d H) := L2M.takes_of rfl rfl rfl rfl
    (pdss_cons (pds_if (PDW.pt (pdw_or (pdt_not (pdt_tru rfl (pd_c C_is_count_fn hr (by decide) 0 (by decide) tk rfl (pda_cons (pd_var (pv 1)) pda_nil)))) (pdw_or (pdt_not (pdt_tru rfl (pd_c C_is_count_fn hr (by decide) 0 (by decide) tk rfl (pda_cons (pd_var (pv 2)) pda_nil)))) (pdw_or (pdt_not (pdt_tru rfl (pd_c C_is_end_fn hr (by decide) 0 (by decide) tk rfl (pda_cons (pd_var (pv 1)) (pda_cons (pd_var (pv 3)) pda_nil))))) (pdw_or1 (pdt_not (pdt_tru rfl (pd_c C_is_end_fn hr (by decide) 0 (by decide) tk rfl (pda_cons (pd_var (pv 2)) (pda_cons (pd_var (pv 4)) pda_nil))))))))))
      (pdss_one (pds_raise rfl (T.x_NoBlock n) rfl tk rfl T.g_NoBlock))
      pdss_nil)
      (pdss_cons (pds_fld rfl (T.n_top n) (pd_var (pv 0)) (pd_var (pv 1)))
      (pdss_cons (pds_fld rfl (T.n_left n) (pd_var (pv 0)) (pd_var (pv 2)))
      (pdss_cons (pds_fld rfl (T.n_bottom n) (pd_var (pv 0)) (pd_var (pv 3)))
      (pdss_one (pds_fld rfl (T.n_right n) (pd_var (pv 0)) (pd_var (pv 4))))))))
abbrev st_Block_repr__ : Stmt := inClass (top 22) 3
abbrev nm_Block_repr__ : List Str := ["self"]
theorem sc_Block_repr__ : FnScope nm_Block_repr__ ["self"] (defScope st_Block_repr__) := ⟨rfl, rfl, rfl, by decide +kernel, rfl, by decide +kernel, by decide +kernel⟩
theorem ok_Block_repr__ {fd : FuncData} {dvs : List V} {kws : List (Str × V)} (T : Fx K mg)  (F : FunD K "__repr__" "Block.__repr__" (defArgs st_Block_repr__) (defBody st_Block_repr__) (defScope st_Block_repr__) dvs kws (He.ma K (He.ga K "Block") "__repr__") fd) :
    FnOk P w K mg base (L2M.CX false P w) 1 (He.ma K (He.ga K "Block") "__repr__") fd ["self"] (spD (S0 K) 1 G_Block_repr__) :=
  fnD_ok (S := S0 K) F sc_Block_repr__ fun n cdv A outer s H E hr =>
    have hnd := sc_Block_repr__.nd
    have tk : L2M.Takes false (cxOf (L2M.CX false P w) P w K mg base nm_Block_repr__ "Block.__repr__" (defScope st_Block_repr__) (He.ma K (He.ga K "Block") "__repr__") cdv A outer s H E) (fun cls d _ H => E cls d H) := L2M.takes_of rfl rfl rfl rfl
    (pdss_one (pds_ret (pd_fs (pdj_cons (pd_str (by decide +kernel)) (pdj_cons (pd_fmt (pd_fld rfl (T.n_top n) (pd_var (pv 0)))) (pdj_cons (pd_str (by decide +kernel)) (pdj_cons (pd_fmt (pd_fld rfl (T.n_left n) (pd_var (pv 0)))) (pdj_cons (pd_str (by decide +kernel)) (pdj_cons (pd_fmt (pd_fld rfl (T.n_bottom n) (pd_var (pv 0)))) (pdj_cons (pd_str (by decide +kernel)) (pdj_cons (pd_fmt (pd_fld rfl (T.n_right n) (pd_var (pv 0)))) (pdj_cons (pd_str (by decide +kernel)) pdj_nil))))))))))))
abbrev st_Move_repr__ : Stmt := inClass (top 42) 2
abbrev nm_Move_repr__ : List Str := ["self"]
theorem sc_Move_repr__ : FnScope nm_Move_repr__ ["self"] (defScope st_Move_repr__) := ⟨rfl, rfl, rfl, by decide +kernel, rfl, by decide +kernel, by decide +kernel⟩
theorem ok_Move_repr__ {fd : FuncData} {dvs : List V} {kws : List (Str × V)} (T : Fx K mg) (C_Block_repr___mt : MetD false P w K mg base (S0 K) 1 "Block" "__repr__" 1 G_Block_repr__ dfl_Block_repr__) (F : FunD K "__repr__" "Move.__repr__" (defArgs st_Move_repr__) (defBody st_Move_repr__) (defScope st_Move_repr__) dvs kws (He.ma K (He.ga K "Move") "__repr__") fd) :
    FnOk P w K mg base (L2M.CX false P w) 4 (He.ma K (He.ga K "Move") "__repr__") fd ["self"] (spD (S0 K) 1 G_Move_repr__) :=
  fnD_ok (S := S0 K) F sc_Move_repr__ fun n cdv A outer s H E hr =>
    have hnd := sc_Move_repr__.nd
    have tk : L2M.Takes false (cxOf (L2M.CX false P w) P w K mg base nm_Move_repr__ "Move.__repr__" (defScope st_Move_repr__) (He.ma K (He.ga K "Move") "__repr__") cdv A outer s H E) (fun cls d _ H => E cls d H) := L2M.takes_of rfl rfl rfl rfl
    (pdss_one (pds_ret (pd_fs (pdj_cons (pd_str (by decide +kernel)) (pdj_cons (pd_fmRO rfl C_Block_repr___mt hr (by decide) tk (pd_fld rfl (T.n_block n) (pd_var (pv 0)))) (pdj_cons (pd_str (by decide +kernel)) (pdj_cons (pd_fmt (pd_fld rfl (T.n_row n) (pd_var (pv 0)))) (pdj_cons (pd_str (by decide +kernel)) (pdj_cons (pd_fmt (pd_fld rfl (T.n_column n) (pd_var (pv 0)))) (pdj_cons (pd_str (by decide +kernel)) pdj_nil))))))))))
abbrev st_Move_steps : Stmt := inClass (top 42) 3
abbrev nm_Move_steps : List Str := ["self"]
theorem sc_Move_steps : FnScope nm_Move_steps ["self"] (defScope st_Move_steps) := ⟨rfl, rfl, rfl, by decide +kernel, rfl, by decide +kernel, by decide +kernel⟩
theorem ok_Move_steps {fd : FuncData} {dvs : List V} {kws : List (Str × V)} (T : Fx K mg)  (F : FunD K "steps" "Move.steps" (defArgs st_Move_steps) (defBody st_Move_steps) (defScope st_Move_steps) dvs kws (He.ma K (He.ga K "Move") "steps") fd) :
    FnOk P w K mg base (L2M.CX false P w) 1 (He.ma K (He.ga K "Move") "steps") fd ["self"] (spD (S0 K) 1 G_Move_steps) :=
  fnD_ok (S := S0 K) F sc_Move_steps fun n cdv A outer s H E hr =>
    have hnd := sc_Move_steps.nd
    have tk : L2M.Takes false (cxOf (L2M.CX false P w) P w K mg base nm_Move_steps "Move.steps" (defScope st_Move_steps) (He.ma K (He.ga K "Move") "steps") cdv A outer s H E) (fun cls d _ H => E cls d H) := L2M.takes_of rfl rfl rfl rfl
    (pdss_one (pds_ret (pd_tup (pda_cons (pd_op po_sub (pd_fld rfl (T.n_row n) (pd_var (pv 0))) (pd_fld rfl (T.n_top n) (pd_fld rfl (T.n_block n) (pd_var (pv 0))))) (pda_cons (pd_op po_sub (pd_fld rfl (T.n_column n) (pd_var (pv 0))) (pd_fld rfl (T.n_left n) (pd_fld rfl (T.n_block n) (pd_var (pv 0))))) pda_nil)))))
abbrev st_moved_ends : Stmt := top 26
abbrev nm_moved_ends : List Str := ["first", "last", "by"]
theorem sc_moved_ends : FnScope nm_moved_ends ["first", "last", "by"] (defScope st_moved_ends) := ⟨rfl, rfl, rfl, by decide +kernel, rfl, by decide +kernel, by decide +kernel⟩
theorem ok_moved_ends {fd : FuncData} {dvs : List V} {kws : List (Str × V)} (T : Fx K mg)  (F : FunD K "moved_ends" "moved_ends" (defArgs st_moved_ends) (defBody st_moved_ends) (defScope st_moved_ends) dvs kws (He.ga K "moved_ends") fd) :
    FnOk P w K mg base (L2M.CX false P w) 1 (He.ga K "moved_ends") fd ["first", "last", "by"] (spD (S0 K) 3 G_moved_ends) :=
  fnD_ok (S := S0 K) F sc_moved_ends fun n cdv A outer s H E hr =>
    have hnd := sc_moved_ends.nd
    have tk : L2M.Takes false (cxOf (L2M.CX false P w) P w K mg base nm_moved_ends "moved_ends" (defScope st_moved_ends) (He.ga K "moved_ends") cdv A outer s H E) (fun cls d _ H => E cls d H) := L2M.takes_of rfl rfl rfl rfl
    (pdss_cons (pds_if (PDW.pt (pdw_and (pdt_cmp po_isN (pd_var (pv 1)) pd_non (nomark _)) (pdw_and1 (pdt_cmp po_lt (pd_op po_add (pd_var (pv 1)) (pd_var (pv 2))) pd_int (nomark _)))))
      (pdss_one (pds_ret pd_non))
      pdss_nil)
      (pdss_cons (pds_if (pdt_cmp po_isN (pd_var (pv 1)) pd_non (nomark _))
      (pdss_one (pds_aug hnd rfl (by first | exact Or.inl rfl | exact Or.inr rfl) (pd_var (pv 2))))
      pdss_nil)
      (pdss_one (pds_ret (pd_tup (pda_cons (pd_blt (pb_max rfl) rfl T.f_max (by decide +kernel) (pda_cons pd_int (pda_cons (pd_op po_add (pd_var (pv 0)) (pd_var (pv 2))) pda_nil))) (pda_cons (pd_var (pv 1)) pda_nil)))))))
abbrev st_moved_block : Stmt := top 27
abbrev nm_moved_block : List Str := ["block", "rows", "columns", "up", "side"]
theorem sc_moved_block : FnScope nm_moved_block ["block", "rows", "columns"] (defScope st_moved_block) := ⟨rfl, rfl, rfl, by decide +kernel, rfl, by decide +kernel, by decide +kernel⟩
theorem ok_moved_block {fd : FuncData} {dvs : List V} {kws : List (Str × V)} (T : Fx K mg) (C_moved_ends_fn : CalD false P w K mg base (S0 K) 1 "moved_ends" 3 G_moved_ends dfl_moved_ends) (C_Block_init___mk : MakD false P w K mg base (S0 K) 4 "Block" 5 G_Block_init__ dfl_Block_init__) (F : FunD K "moved_block" "moved_block" (defArgs st_moved_block) (defBody st_moved_block) (defScope st_moved_block) dvs kws (He.ga K "moved_block") fd) :
    FnOk P w K mg base (L2M.CX false P w) 6 (He.ga K "moved_block") fd ["block", "rows", "columns"] (spD (S0 K) 3 G_moved_block) :=
  fnD_ok (S := S0 K) F sc_moved_block fun n cdv A outer s H E hr =>
    have hnd := sc_moved_block.nd
    have tk : L2M.Takes false (cxOf (L2M.CX false P w) P w K mg base nm_moved_block "moved_block" (defScope st_moved_block) (He.ga K "moved_block") cdv A outer s H E) (fun cls d _ H => E cls d H) := L2M.takes_of rfl rfl rfl rfl
    (pdss_cons (pds_set hnd rfl (by first | exact Or.inl rfl | exact Or.inr rfl) (pd_c C_moved_ends_fn hr (by decide) 0 (by decide) tk rfl (pda_cons (pd_fld rfl (T.n_top n) (pd_var (pv 0))) (pda_cons (pd_fld rfl (T.n_bottom n) (pd_var (pv 0))) (pda_cons (pd_var (pv 1)) pda_nil)))))
      (pdss_cons (pds_set hnd rfl (by first | exact Or.inl rfl | exact Or.inr rfl) (pd_c C_moved_ends_fn hr (by decide) 0 (by decide) tk rfl (pda_cons (pd_fld rfl (T.n_left n) (pd_var (pv 0))) (pda_cons (pd_fld rfl (T.n_right n) (pd_var (pv 0))) (pda_cons (pd_var (pv 2)) pda_nil)))))
      (pdss_cons (pds_if (PDW.pt (pdw_or (pdt_cmp po_is (pd_var (pv 3)) pd_non (nomark _)) (pdw_or1 (pdt_cmp po_is (pd_var (pv 4)) pd_non (nomark _)))))
      (pdss_one (pds_ret (pd_lst pda_nil)))
      pdss_nil)
      (pdss_one (pds_ret (pd_lst (pda_cons (pd_mk rfl C_Block_init___mk hr (by decide) 4 (by decide) tk rfl (pda_cons (pd_ix rfl (pd_var (pv 3)) pd_int (fun _ _ => rfl)) (pda_cons (pd_ix rfl (pd_var (pv 4)) pd_int (fun _ _ => rfl)) (pda_cons (pd_ix rfl (pd_var (pv 3)) pd_int (fun _ _ => rfl)) (pda_cons (pd_ix rfl (pd_var (pv 4)) pd_int (fun _ _ => rfl)) pda_nil))))) pda_nil)))))))
abbrev st_Move_target : Stmt := inClass (top 42) 4
abbrev nm_Move_target : List Str := ["self", "down", "right"]
theorem sc_Move_target : FnScope nm_Move_target ["self"] (defScope st_Move_target) := ⟨rfl, rfl, rfl, by decide +kernel, rfl, by decide +kernel, by decide +kernel⟩
theorem ok_Move_target {fd : FuncData} {dvs : List V} {kws : List (Str × V)} (T : Fx K mg) (C_Move_steps_mt : MetD false P w K mg base (S0 K) 1 "Move" "steps" 1 G_Move_steps dfl_Move_steps) (C_moved_block_fn : CalD false P w K mg base (S0 K) 6 "moved_block" 3 G_moved_block dfl_moved_block) (F : FunD K "target" "Move.target" (defArgs st_Move_target) (defBody st_Move_target) (defScope st_Move_target) dvs kws (He.ma K (He.ga K "Move") "target") fd) :
    FnOk P w K mg base (L2M.CX false P w) 7 (He.ma K (He.ga K "Move") "target") fd ["self"] (spD (S0 K) 1 G_Move_target) :=
  fnD_ok (S := S0 K) F sc_Move_target fun n cdv A outer s H E hr =>
    have hnd := sc_Move_target.nd
    have tk : L2M.Takes false (cxOf (L2M.CX false P w) P w K mg base nm_Move_target "Move.target" (defScope st_Move_target) (He.ma K (He.ga K "Move") "target") cdv A outer s H E) (fun cls d _ H => E cls d H) := L2M.takes_of rfl rfl rfl rfl
    (pdss_cons (pds_asg (pd_m0 rfl C_Move_steps_mt hr (by decide) 0 (by decide) tk (pd_var (pv 0))) (pdg_tup rfl rfl (pdgs_cons (pdg_name hnd rfl (by first | exact Or.inl rfl | exact Or.inr rfl)) (pdgs_cons (pdg_name hnd rfl (by first | exact Or.inl rfl | exact Or.inr rfl)) pdgs_nil))))
      (pdss_one (pds_ret (pd_ix rfl (pd_c C_moved_block_fn hr (by decide) 0 (by decide) tk rfl (pda_cons (pd_fld rfl (T.n_block n) (pd_var (pv 0))) (pda_cons (pd_var (pv 1)) (pda_cons (pd_var (pv 2)) pda_nil)))) pd_int (fun _ _ => rfl)))))
abbrev st_Move_undoing : Stmt := inClass (top 42) 8
abbrev nm_Move_undoing : List Str := ["self"]
theorem sc_Move_undoing : FnScope nm_Move_undoing ["self"] (defScope st_Move_undoing) := ⟨rfl, rfl, rfl, by decide +kernel, rfl, by decide +kernel, by decide +kernel⟩
theorem ok_Move_undoing {fd : FuncData} {dvs : List V} {kws : List (Str × V)} (T : Fx K mg) (C_Move_init___mk : MakD false P w K mg base (S0 K) 4 "Move" 4 G_Move_init__ dfl_Move_init__) (C_Move_target_mt : MetD false P w K mg base (S0 K) 7 "Move" "target" 1 G_Move_target dfl_Move_target) (F : FunD K "undoing" "Move.undoing" (defArgs st_Move_undoing) (defBody st_Move_undoing) (defScope st_Move_undoing) dvs kws (He.ma K (He.ga K "Move") "undoing") fd) :
    FnOk P w K mg base (L2M.CX false P w) 8 (He.ma K (He.ga K "Move") "undoing") fd ["self"] (spD (S0 K) 1 G_Move_undoing) :=
  fnD_ok (S := S0 K) F sc_Move_undoing fun n cdv A outer s H E hr =>
    have hnd := sc_Move_undoing.nd
    have tk : L2M.Takes false (cxOf (L2M.CX false P w) P w K mg base nm_Move_undoing "Move.undoing" (defScope st_Move_undoing) (He.ma K (He.ga K "Move") "undoing") cdv A outer s H E) (fun cls d _ H => E cls d H) := L2M.takes_of rfl rfl rfl rfl
    (pdss_one (pds_ret (pd_mk rfl C_Move_init___mk hr (by decide) 0 (by decide) tk rfl (pda_cons (pd_m0 rfl C_Move_target_mt hr (by decide) 0 (by decide) tk (pd_var (pv 0))) (pda_cons (pd_fld rfl (T.n_top n) (pd_fld rfl (T.n_block n) (pd_var (pv 0)))) (pda_cons (pd_fld rfl (T.n_left n) (pd_fld rfl (T.n_block n) (pd_var (pv 0)))) pda_nil))))))
abbrev st_Block_eq__ : Stmt := inClass (top 22) 1
abbrev nm_Block_eq__ : List Str := ["self", "other", "here"]
theorem sc_Block_eq__ : FnScope nm_Block_eq__ ["self", "other"] (defScope st_Block_eq__) := ⟨rfl, rfl, rfl, by decide +kernel, rfl, by decide +kernel, by decide +kernel⟩
theorem ok_Block_eq__ {fd : FuncData} {dvs : List V} {kws : List (Str × V)} (T : Fx K mg)  (F : FunD K "__eq__" "Block.__eq__" (defArgs st_Block_eq__) (defBody st_Block_eq__) (defScope st_Block_eq__) dvs kws (He.ma K (He.ga K "Block") "__eq__") fd) :
    FnOk P w K mg base (L2M.CX false P w) 1 (He.ma K (He.ga K "Block") "__eq__") fd ["self", "other"] (spD (S0 K) 2 G_Block_eq__) :=
  fnD_ok (S := S0 K) F sc_Block_eq__ fun n cdv A outer s H E hr =>
    have hnd := sc_Block_eq__.nd
    have tk : L2M.Takes false (cxOf (L2M.CX false P w) P w K mg base nm_Block_eq__ "Block.__eq__" (defScope st_Block_eq__) (He.ma K (He.ga K "Block") "__eq__") cdv A outer s H E) (fun cls d _ H => E cls d H) := L2M.takes_of rfl rfl rfl rfl
    (pdss_cons (pds_if (pdt_not (pdt_tru rfl (pd_blt (pb_isi rfl (T.ins n) (T.k_Block n)) rfl T.f_isinstance (by decide +kernel) (pda_cons (pd_var (pv 1)) (pda_cons (pd_glo rfl T.g_Block) pda_nil)))))
      (pdss_one (pds_ret pd_bl))
      pdss_nil)
      (pdss_cons (pds_set hnd rfl (by first | exact Or.inl rfl | exact Or.inr rfl) (pd_tup (pda_cons (pd_fld rfl (T.n_top n) (pd_var (pv 0))) (pda_cons (pd_fld rfl (T.n_left n) (pd_var (pv 0))) (pda_cons (pd_fld rfl (T.n_bottom n) (pd_var (pv 0))) (pda_cons (pd_fld rfl (T.n_right n) (pd_var (pv 0))) pda_nil))))))
      (pdss_one (pds_ret (pd_cmp (po_eq rfl hr.units) (pd_var (pv 2)) (pd_tup (pda_cons (pd_fld rfl (T.n_top n) (pd_var (pv 1))) (pda_cons (pd_fld rfl (T.n_left n) (pd_var (pv 1))) (pda_cons (pd_fld rfl (T.n_bottom n) (pd_var (pv 1))) (pda_cons (pd_fld rfl (T.n_right n) (pd_var (pv 1))) pda_nil))))) (nomark _))))))
abbrev st_Move_eq__ : Stmt := inClass (top 42) 1
abbrev nm_Move_eq__ : List Str := ["self", "other"]
theorem sc_Move_eq__ : FnScope nm_Move_eq__ ["self", "other"] (defScope st_Move_eq__) := ⟨rfl, rfl, rfl, by decide +kernel, rfl, by decide +kernel, by decide +kernel⟩
theorem ok_Move_eq__ {fd : FuncData} {dvs : List V} {kws : List (Str × V)} (T : Fx K mg) (C_Block_eq___mt : MetD false P w K mg base (S0 K) 1 "Block" "__eq__" 2 G_Block_eq__ dfl_Block_eq__) (F : FunD K "__eq__" "Move.__eq__" (defArgs st_Move_eq__) (defBody st_Move_eq__) (defScope st_Move_eq__) dvs kws (He.ma K (He.ga K "Move") "__eq__") fd) :
    FnOk P w K mg base (L2M.CX false P w) 3 (He.ma K (He.ga K "Move") "__eq__") fd ["self", "other"] (spD (S0 K) 2 G_Move_eq__) :=
  fnD_ok (S := S0 K) F sc_Move_eq__ fun n cdv A outer s H E hr =>
    have hnd := sc_Move_eq__.nd
    have tk : L2M.Takes false (cxOf (L2M.CX false P w) P w K mg base nm_Move_eq__ "Move.__eq__" (defScope st_Move_eq__) (He.ma K (He.ga K "Move") "__eq__") cdv A outer s H E) (fun cls d _ H => E cls d H) := L2M.takes_of rfl rfl rfl rfl
    (pdss_cons (pds_if (PDW.pt (pdw_or (pdt_not (pdt_tru rfl (pd_blt (pb_isi rfl (T.ins n) (T.k_Move n)) rfl T.f_isinstance (by decide +kernel) (pda_cons (pd_var (pv 1)) (pda_cons (pd_glo rfl T.g_Move) pda_nil))))) (pdw_or1 (pdt_ne rfl C_Block_eq___mt hr (by decide) tk (T.ins n) (T.nf_Block n) (T.ne_Block n) (pd_fld rfl (T.n_block n) (pd_var (pv 0))) (pd_fld rfl (T.n_block n) (pd_var (pv 1))) (nomark _)))))
      (pdss_one (pds_ret pd_bl))
      pdss_nil)
      (pdss_one (pds_ret (pd_cmp (po_eq rfl hr.units) (pd_tup (pda_cons (pd_fld rfl (T.n_row n) (pd_var (pv 0))) (pda_cons (pd_fld rfl (T.n_column n) (pd_var (pv 0))) pda_nil))) (pd_tup (pda_cons (pd_fld rfl (T.n_row n) (pd_var (pv 1))) (pda_cons (pd_fld rfl (T.n_column n) (pd_var (pv 1))) pda_nil))) (nomark _)))))
abbrev st_law_move_right : Stmt := top 54
abbrev nm_law_move_right : List Str := ["_law_piece", "_law_line", "_law_side", "_law_change", "_law_text", "_law_end", "_law_fields", "_law_by", "_law_there"]
theorem sc_law_move_right : FnScope nm_law_move_right ["_law_piece", "_law_line", "_law_side"] (defScope st_law_move_right) := ⟨rfl, rfl, rfl, by decide +kernel, rfl, by decide +kernel, by decide +kernel⟩
theorem ok_law_move_right {fd : FuncData} {dvs : List V} {kws : List (Str × V)} (T : Fx K mg) (C_Move_init___mk : MakD false P w K mg base (S0 K) 4 "Move" 4 G_Move_init__ dfl_Move_init__) (C_Block_init___mk : MakD false P w K mg base (S0 K) 4 "Block" 5 G_Block_init__ dfl_Block_init__) (C_Move_repr___mt : MetD false P w K mg base (S0 K) 4 "Move" "__repr__" 1 G_Move_repr__ dfl_Move_repr__) (C_law_kinds_fn : CalD false P w K mg base (S0 K) 1 "_law_kinds" 1 G_law_kinds dfl_law_kinds) (C_Move_undoing_mt : MetD false P w K mg base (S0 K) 8 "Move" "undoing" 1 G_Move_undoing dfl_Move_undoing) (C_Move_init___mkK0_column_row_block : MakK false P w K mg base (S0 K) 4 "Move" 4 G_Move_init__ 0 ["column", "row", "block"] [2, 1, 0] []) (C_Move_eq___mt : MetD false P w K mg base (S0 K) 3 "Move" "__eq__" 2 G_Move_eq__ dfl_Move_eq__) (F : FunD K "_law_move_right" "_law_move_right" (defArgs st_law_move_right) (defBody st_law_move_right) (defScope st_law_move_right) dvs kws (He.ga K "_law_move_right") fd) :
    FnOk P w K mg base (L2M.CX false P w) 9 (He.ga K "_law_move_right") fd ["_law_piece", "_law_line", "_law_side"] (spD (S0 K) 3 G_law_move_right) :=
  fnD_ok (S := S0 K) F sc_law_move_right fun n cdv A outer s H E hr =>
    have hnd := sc_law_move_right.nd
    have tk : L2M.Takes false (cxOf (L2M.CX false P w) P w K mg base nm_law_move_right "_law_move_right" (defScope st_law_move_right) (He.ga K "_law_move_right") cdv A outer s H E) (fun cls d _ H => E cls d H) := L2M.takes_of rfl rfl rfl rfl
    (pdss_cons (pds_set hnd rfl (by first | exact Or.inl rfl | exact Or.inr rfl) (pd_mk rfl C_Move_init___mk hr (by decide) 0 (by decide) tk rfl (pda_cons (pd_mk rfl C_Block_init___mk hr (by decide) 4 (by decide) tk rfl (pda_cons (pd_ix rfl (pd_var (pv 0)) pd_int (fun _ _ => rfl)) (pda_cons (pd_ix rfl (pd_var (pv 0)) pd_int (fun _ _ => rfl)) (pda_cons (pd_ix rfl (pd_var (pv 0)) pd_int (fun _ _ => rfl)) (pda_cons (pd_ix rfl (pd_var (pv 0)) pd_int (fun _ _ => rfl)) pda_nil))))) (pda_cons (pd_var (pv 1)) (pda_cons (pd_var (pv 2)) pda_nil)))))
      (pdss_cons (pds_set hnd rfl (by first | exact Or.inl rfl | exact Or.inr rfl) (pd_op po_add (pd_op po_add (pd_str (by decide +kernel)) (pd_sm1 (pm_join rfl) PySem.F.slot_str_join PySem.F.type_str_join (pd_str (by decide +kernel)) (pd_lc (own := [("_law_end", 5)]) rfl (by exact hnd) (pdi_any rfl (pd_var (pv 0))) (blkOk_by (own := [("_law_end", 5)]) (N := ["_law_piece", "_law_line", "_law_side", "_law_change", "_law_text", "_law_end", "_law_fields", "_law_by", "_law_there"]) (sc := defScope st_law_move_right) (by decide +kernel)) (by decide) (fun _ _ _ _ _ => (pdg_name hnd rfl (by first | exact Or.inl rfl | exact Or.inr rfl))) (fun _ _ _ _ _ => pdts_nil) (fun _ _ _ _ _ => (pd_bty (pb_str2) rfl T.f_str (by decide +kernel) (pda_cons (pd_var (pv 5)) pda_nil)))))) (pd_str (by decide +kernel))))
      (pdss_cons (pds_set hnd rfl (by first | exact Or.inl rfl | exact Or.inr rfl) (pd_op po_add (pd_op po_add (pd_str (by decide +kernel)) (pd_sm1 (pm_join rfl) PySem.F.slot_str_join PySem.F.type_str_join (pd_str (by decide +kernel)) (pd_lst (pda_cons (pd_var (pv 4)) (pda_cons (pd_bty (pb_str2) rfl T.f_str (by decide +kernel) (pda_cons (pd_var (pv 1)) pda_nil)) (pda_cons (pd_bty (pb_str2) rfl T.f_str (by decide +kernel) (pda_cons (pd_var (pv 2)) pda_nil)) pda_nil)))))) (pd_str (by decide +kernel))))
      (pdss_cons (pds_set hnd rfl (by first | exact Or.inl rfl | exact Or.inr rfl) (pd_tup (pda_cons (pd_fld rfl (T.n_top n) (pd_fld rfl (T.n_block n) (pd_var (pv 3)))) (pda_cons (pd_fld rfl (T.n_left n) (pd_fld rfl (T.n_block n) (pd_var (pv 3)))) (pda_cons (pd_fld rfl (T.n_bottom n) (pd_fld rfl (T.n_block n) (pd_var (pv 3)))) (pda_cons (pd_fld rfl (T.n_right n) (pd_fld rfl (T.n_block n) (pd_var (pv 3)))) pda_nil))))))
      (pdss_cons (pds_if (PDW.pt (pdw_or (pdt_cmp (po_ne rfl hr.units) (pd_var (pv 6)) (pd_var (pv 0)) (nomark _)) (pdw_or (pdt_cmp (po_ne rfl hr.units) (pd_tup (pda_cons (pd_fld rfl (T.n_row n) (pd_var (pv 3))) (pda_cons (pd_fld rfl (T.n_column n) (pd_var (pv 3))) pda_nil))) (pd_tup (pda_cons (pd_var (pv 1)) (pda_cons (pd_var (pv 2)) pda_nil))) (nomark _)) (pdw_or1 (pdt_cmp (po_ne rfl hr.units) (pd_reprO rfl C_Move_repr___mt hr (by decide) tk rfl T.f_repr (pd_var (pv 3))) (pd_var (pv 4)) (nomark _))))))
      (pdss_one (pds_ret pd_bl))
      pdss_nil)
      (pdss_cons (pds_set hnd rfl (by first | exact Or.inl rfl | exact Or.inr rfl) (pd_tup (pda_cons (pd_op po_sub (pd_var (pv 1)) (pd_ix rfl (pd_var (pv 0)) pd_int (fun _ _ => rfl))) (pda_cons (pd_op po_sub (pd_var (pv 2)) (pd_ix rfl (pd_var (pv 0)) pd_int (fun _ _ => rfl))) pda_nil))))
      (pdss_cons (pds_set hnd rfl (by first | exact Or.inl rfl | exact Or.inr rfl) (pd_mk rfl C_Block_init___mk hr (by decide) 4 (by decide) tk rfl (pda_cons (pd_var (pv 1)) (pda_cons (pd_var (pv 2)) (pda_cons (pd_op po_add (pd_ix rfl (pd_var (pv 0)) pd_int (fun _ _ => rfl)) (pd_ix rfl (pd_var (pv 7)) pd_int (fun _ _ => rfl))) (pda_cons (pd_op po_add (pd_ix rfl (pd_var (pv 0)) pd_int (fun _ _ => rfl)) (pd_ix rfl (pd_var (pv 7)) pd_int (fun _ _ => rfl))) pda_nil))))))
      (pdss_cons (pds_if (pdt_cmp (po_ne rfl hr.units) (pd_c C_law_kinds_fn hr (by decide) 0 (by decide) tk rfl (pda_cons (pd_var (pv 3)) pda_nil)) (pd_lst (pda_cons pd_bl (pda_cons pd_bl (pda_cons pd_bl (pda_cons pd_bl (pda_cons pd_bl (pda_cons pd_bl pda_nil))))))) (nomark _))
      (pdss_one (pds_ret pd_bl))
      pdss_nil)
      (pdss_cons (pds_if (pdt_ne rfl C_Move_eq___mt hr (by decide) tk (T.ins n) (T.nf_Move n) (T.ne_Move n) (pd_m0 rfl C_Move_undoing_mt hr (by decide) 0 (by decide) tk (pd_var (pv 3))) (pd_mkk0 rfl C_Move_init___mkK0_column_row_block hr (by decide) tk rfl (pdk_cons (pd_ix rfl (pd_var (pv 0)) pd_int (fun _ _ => rfl)) (pdk_cons (pd_ix rfl (pd_var (pv 0)) pd_int (fun _ _ => rfl)) (pdk_cons (pd_var (pv 8)) pdk_nil)))) (nomark _))
      (pdss_one (pds_ret pd_bl))
      pdss_nil)
      (pdss_cons (pds_if (PDW.pt (pdw_or (pdt_own rfl C_Move_eq___mt hr (by decide) tk (T.ins n) (T.nf_Move n) (pd_var (pv 3)) (pd_mk rfl C_Move_init___mk hr (by decide) 0 (by decide) tk rfl (pda_cons (pd_fld rfl (T.n_block n) (pd_var (pv 3))) (pda_cons (pd_op po_add (pd_var (pv 1)) pd_int) (pda_cons (pd_var (pv 2)) pda_nil)))) (nomark _)) (pdw_or1 (pdt_own rfl C_Move_eq___mt hr (by decide) tk (T.ins n) (T.nf_Move n) (pd_var (pv 3)) (pd_mk rfl C_Move_init___mk hr (by decide) 0 (by decide) tk rfl (pda_cons (pd_fld rfl (T.n_block n) (pd_var (pv 3))) (pda_cons (pd_var (pv 1)) (pda_cons (pd_op po_add (pd_var (pv 2)) pd_int) pda_nil)))) (nomark _)))))
      (pdss_one (pds_ret pd_bl))
      pdss_nil)
      (pdss_cons (pds_if (PDW.pt (pdw_and (pdt_cmp (po_ne rfl hr.units) (pd_var (pv 7)) (pd_tup (pda_cons pd_int (pda_cons pd_int pda_nil))) (nomark _)) (pdw_and1 (pdt_own rfl C_Move_eq___mt hr (by decide) tk (T.ins n) (T.nf_Move n) (pd_var (pv 3)) (pd_mk rfl C_Move_init___mk hr (by decide) 0 (by decide) tk rfl (pda_cons (pd_var (pv 8)) (pda_cons (pd_var (pv 1)) (pda_cons (pd_var (pv 2)) pda_nil)))) (nomark _)))))
      (pdss_one (pds_ret pd_bl))
      pdss_nil)
      (pdss_one (pds_ret (pd_own rfl C_Move_eq___mt hr (by decide) tk (T.ins n) (T.nf_Move n) (pd_var (pv 3)) (pd_mk rfl C_Move_init___mk hr (by decide) 0 (by decide) tk rfl (pda_cons (pd_fld rfl (T.n_block n) (pd_var (pv 3))) (pda_cons (pd_var (pv 1)) (pda_cons (pd_var (pv 2)) pda_nil)))) (nomark _)))))))))))))))
abbrev st_law_refused : Stmt := top 51
abbrev nm_law_refused : List Str := ["_law_way", "_law_one", "_law_two", "_law_three", "e", "_law_marks"]
theorem sc_law_refused : FnScope nm_law_refused ["_law_way", "_law_one", "_law_two", "_law_three"] (defScope st_law_refused) := ⟨rfl, rfl, rfl, by decide +kernel, rfl, by decide +kernel, by decide +kernel⟩
theorem ok_law_refused {fd : FuncData} {dvs : List V} {kws : List (Str × V)} (T : Fx K mg) (C_law_lines_fn : CalD false P w K mg base (S0 K) 6 "_law_lines" 3 G_law_lines dfl_law_lines) (C_Move_init___mk : MakD false P w K mg base (S0 K) 4 "Move" 4 G_Move_init__ dfl_Move_init__) (F : FunD K "_law_refused" "_law_refused" (defArgs st_law_refused) (defBody st_law_refused) (defScope st_law_refused) dvs kws (He.ga K "_law_refused") fd) :
    FnOk P w K mg base (L2M.CX false P w) 7 (He.ga K "_law_refused") fd ["_law_way", "_law_one", "_law_two", "_law_three"] (spD (S0 K) 4 G_law_refused_k31) :=
  fnD_ok (S := S0 K) F sc_law_refused fun n cdv A outer s H E hr =>
    have hnd := sc_law_refused.nd
    have tk : L2M.Takes false (cxOf (L2M.CX false P w) P w K mg base nm_law_refused "_law_refused" (defScope st_law_refused) (He.ga K "_law_refused") cdv A outer s H E) (fun cls d _ H => E cls d H) := L2M.takes_of rfl rfl rfl rfl
    (pdss_cons (pds_tryH (xs := (["NoChange"] : List Str)) (i := 4) rfl rfl rfl rfl (by exact hnd) rfl rfl rfl T.g_CellError (T.xm_CellError n) tk (fun _ _ _ tk hpo => (pdss_one (pds_if (pdt_cmp po_lt (pd_var (pv 0)) pd_int (nomark _))
      (pdss_one (pds_exp (pd_c C_law_lines_fn hr (by decide) 0 (by decide) tk rfl (pda_cons (pd_var (pv 0)) (pda_cons (pd_var (pv 1)) (pda_cons (pd_var (pv 2)) pda_nil))))))
      (pdss_one (pds_exp (pd_mk rfl C_Move_init___mk hr (by decide) 0 (by decide) tk rfl (pda_cons (pd_var (pv 1)) (pda_cons (pd_var (pv 2)) (pda_cons (pd_var (pv 3)) pda_nil)))))))))
      (fun a oe pn hot hp hpn hc => have hr := L2H.roomH_mark (h := some (.ref a)) hr; (pdss_cons (pds_set hnd rfl (by first | exact Or.inl rfl | exact Or.inr rfl) (pd_lst (pda_cons (pd_blt (pb_isX rfl hpn (T.xk_NoChange n (a, oe))) rfl T.f_isinstance (by decide +kernel) (pda_cons (pd_var (pv 4)) (pda_cons (pd_glo rfl T.g_NoChange) pda_nil))) (pda_cons (pd_blt (pb_isX rfl hpn (T.xk_NoNumber n (a, oe))) rfl T.f_isinstance (by decide +kernel) (pda_cons (pd_var (pv 4)) (pda_cons (pd_glo rfl T.g_NoNumber) pda_nil))) (pda_cons (pd_blt (pb_isX rfl hpn (T.xk_NoBlock n (a, oe))) rfl T.f_isinstance (by decide +kernel) (pda_cons (pd_var (pv 4)) (pda_cons (pd_glo rfl T.g_NoBlock) pda_nil))) (pda_cons (pd_blt (pb_isX rfl hpn (T.xk_NoCell n (a, oe))) rfl T.f_isinstance (by decide +kernel) (pda_cons (pd_var (pv 4)) (pda_cons (pd_glo rfl T.g_NoCell) pda_nil))) pda_nil))))))
      (pdss_one (pds_ret (pd_cmp (po_eq rfl hr.units) (pd_var (pv 5)) (pd_lst (pda_cons pd_bl (pda_cons pd_bl (pda_cons pd_bl (pda_cons pd_bl pda_nil))))) (nomark _)))))))
      (pdss_one (pds_ret pd_bl)))
abbrev st_law : Stmt := top 55
abbrev nm_law : List Str := ["_law_script", "_law_cell", "_law_source_here", "_law_begin", "_law_count", "_law_way", "_law_piece", "_law_odd", "_law_bad", "_law_things", "_law_thing"]
theorem sc_law : FnScope nm_law ["_law_script"] (defScope st_law) := ⟨rfl, rfl, rfl, by decide +kernel, rfl, by decide +kernel, by decide +kernel⟩
theorem ok_law {fd : FuncData} {dvs : List V} {kws : List (Str × V)} (T : Fx K mg) (C_law_source_nw : CalN false P w K mg base (S0 K) 1 "_law_source" 1 G_law_source dfl_law_source) (C_law_number_fn : CalD false P w K mg base (S0 K) 3 "_law_number" 1 G_law_number_k31 dfl_law_number_k31) (C_law_next_fn : CalD false P w K mg base (S0 K) 2 "_law_next" 2 G_law_next dfl_law_next) (C_law_lines_right_fn : CalD false P w K mg base (S0 K) 7 "_law_lines_right" 3 G_law_lines_right dfl_law_lines_right) (C_law_move_right_fn : CalD false P w K mg base (S0 K) 9 "_law_move_right" 3 G_law_move_right dfl_law_move_right) (C_law_refused_fn : CalD false P w K mg base (S0 K) 7 "_law_refused" 4 G_law_refused_k31 dfl_law_refused_k31) (C_Block_init___mk : MakD false P w K mg base (S0 K) 4 "Block" 5 G_Block_init__ dfl_Block_init__) (C_PutRows_repr___mt : MetD false P w K mg base (S0 K) 1 "PutRows" "__repr__" 1 G_PutRows_repr__ dfl_PutRows_repr__) (C_PutRows_init___mk : MakD false P w K mg base (S0 K) 4 "PutRows" 3 G_PutRows_init__ dfl_PutRows_init__) (C_PutRows_eq___mt : MetD false P w K mg base (S0 K) 1 "PutRows" "__eq__" 2 G_PutRows_eq__ dfl_PutRows_eq__) (F : FunD K "law" "law" (defArgs st_law) (defBody st_law) (defScope st_law) dvs kws (He.ga K "law") fd) :
    FnOk P w K mg base (L2M.CX false P w) 10 (He.ga K "law") fd ["_law_script"] (spD (S0 K) 1 G_law_k31) :=
  fnD_ok (S := S0 K) F sc_law fun n cdv A outer s H E hr =>
    have hnd := sc_law.nd
    have tk : L2M.Takes false (cxOf (L2M.CX false P w) P w K mg base nm_law "law" (defScope st_law) (He.ga K "law") cdv A outer s H E) (fun cls d _ H => E cls d H) := L2M.takes_of rfl rfl rfl rfl
    (pdss_cons (pds_for (by exact PassesOwn.leaving) rfl (pdi_any rfl (pd_op po_add (pd_slc rfl (pd_var (pv 0)) pdp_none (pdp_some pd_int)) (pd_lst (pda_cons pd_int (pda_cons pd_int pda_nil))))) (pdg_name hnd rfl (by first | exact Or.inl rfl | exact Or.inr rfl))
      (pdss_cons (pds_newL hnd rfl (by first | exact Or.inl rfl | exact Or.inr rfl) (pdl_c C_law_source_nw hr (by decide) 0 (by decide) tk rfl (pda_cons (pd_var (pv 1)) pda_nil)))
      (pdss_cons (pds_asg (pd_tup (pda_cons (pd_c C_law_number_fn hr (by decide) 0 (by decide) tk rfl (pda_cons (pd_var (pv 2)) pda_nil)) (pda_cons (pd_c C_law_number_fn hr (by decide) 0 (by decide) tk rfl (pda_cons (pd_var (pv 2)) pda_nil)) pda_nil))) (pdg_tup rfl rfl (pdgs_cons (pdg_name hnd rfl (by first | exact Or.inl rfl | exact Or.inr rfl)) (pdgs_cons (pdg_name hnd rfl (by first | exact Or.inl rfl | exact Or.inr rfl)) pdgs_nil))))
      (pdss_cons (pds_set hnd rfl (by first | exact Or.inl rfl | exact Or.inr rfl) (pd_c C_law_next_fn hr (by decide) 0 (by decide) tk rfl (pda_cons (pd_var (pv 2)) (pda_cons pd_int pda_nil))))
      (pdss_cons (pds_if (pdt_not (pdt_tru rfl (pd_c C_law_lines_right_fn hr (by decide) 0 (by decide) tk rfl (pda_cons (pd_var (pv 5)) (pda_cons (pd_var (pv 3)) (pda_cons (pd_var (pv 4)) pda_nil))))))
      (pdss_one (pds_ret pd_bl))
      pdss_nil)
      (pdss_cons (pds_set hnd rfl (by first | exact Or.inl rfl | exact Or.inr rfl) (pd_tup (pda_cons (pd_var (pv 3)) (pda_cons (pd_var (pv 4)) (pda_cons (pd_op po_add (pd_var (pv 3)) (pd_c C_law_next_fn hr (by decide) 0 (by decide) tk rfl (pda_cons (pd_var (pv 2)) (pda_cons pd_int pda_nil)))) (pda_cons (pd_op po_add (pd_var (pv 4)) (pd_c C_law_number_fn hr (by decide) 0 (by decide) tk rfl (pda_cons (pd_var (pv 2)) pda_nil))) pda_nil))))))
      (pdss_cons (pds_if (pdt_not (pdt_tru rfl (pd_c C_law_move_right_fn hr (by decide) 0 (by decide) tk rfl (pda_cons (pd_var (pv 6)) (pda_cons (pd_c C_law_number_fn hr (by decide) 0 (by decide) tk rfl (pda_cons (pd_var (pv 2)) pda_nil)) (pda_cons (pd_c C_law_number_fn hr (by decide) 0 (by decide) tk rfl (pda_cons (pd_var (pv 2)) pda_nil)) pda_nil))))))
      (pdss_one (pds_ret pd_bl))
      pdss_nil)
      (pdss_cons (pds_set hnd rfl (by first | exact Or.inl rfl | exact Or.inr rfl) (pd_ix rfl (pd_lst (pda_cons pd_int (pda_cons (pd_neg pd_int) (pda_cons pd_non (pda_cons pd_bl (pda_cons (pd_str (by decide +kernel)) (pda_cons (pd_lst (pda_cons (pd_var (pv 3)) pda_nil)) (pda_cons (pd_tup (pda_cons (pd_var (pv 3)) pda_nil)) (pda_cons (pd_op po_sub pd_int (pd_var (pv 3))) (pda_cons pd_bl pda_nil)))))))))) (pd_c C_law_next_fn hr (by decide) 0 (by decide) tk rfl (pda_cons (pd_var (pv 2)) (pda_cons pd_int pda_nil))) (fun _ _ => rfl)))
      (pdss_cons (pds_if (pdt_not (pdt_tru rfl (pd_c C_law_refused_fn hr (by decide) 0 (by decide) tk rfl (pda_cons (pd_var (pv 5)) (pda_cons (pd_var (pv 7)) (pda_cons (pd_var (pv 4)) (pda_cons pd_non pda_nil)))))))
      (pdss_one (pds_ret pd_bl))
      pdss_nil)
      (pdss_cons (pds_if (PDW.pt (pdw_or (pdt_not (pdt_tru rfl (pd_c C_law_refused_fn hr (by decide) 0 (by decide) tk rfl (pda_cons (pd_var (pv 5)) (pda_cons (pd_var (pv 3)) (pda_cons (pd_var (pv 7)) (pda_cons pd_non pda_nil))))))) (pdw_or1 (pdt_not (pdt_tru rfl (pd_c C_law_refused_fn hr (by decide) 0 (by decide) tk rfl (pda_cons pd_int (pda_cons (pd_mk rfl C_Block_init___mk hr (by decide) 4 (by decide) tk rfl (pda_cons pd_int (pda_cons pd_int (pda_cons pd_int (pda_cons pd_int pda_nil))))) (pda_cons (pd_var (pv 7)) (pda_cons (pd_var (pv 3)) pda_nil))))))))))
      (pdss_one (pds_ret pd_bl))
      pdss_nil)
      (pdss_cons (pds_set hnd rfl (by first | exact Or.inl rfl | exact Or.inr rfl) (pd_lst (pda_cons (pd_mk0 rfl C_Block_init___mk hr (by decide) 0 (by decide) tk rfl) (pda_cons (pd_mk rfl C_Block_init___mk hr (by decide) 4 (by decide) tk rfl (pda_cons pd_int (pda_cons pd_int (pda_cons pd_int (pda_cons pd_non pda_nil))))) (pda_cons (pd_mk rfl C_Block_init___mk hr (by decide) 4 (by decide) tk rfl (pda_cons pd_int (pda_cons pd_int (pda_cons pd_non (pda_cons pd_int pda_nil))))) (pda_cons pd_non (pda_cons (pd_str (by decide +kernel)) (pda_cons (pd_tup (pda_cons pd_int (pda_cons pd_int (pda_cons pd_int (pda_cons pd_int pda_nil))))) (pda_cons (pd_lst (pda_cons (pd_mk rfl C_Block_init___mk hr (by decide) 4 (by decide) tk rfl (pda_cons pd_int (pda_cons pd_int (pda_cons pd_int (pda_cons pd_int pda_nil))))) pda_nil)) pda_nil)))))))))
      (pdss_cons (pds_if (pdt_not (pdt_tru rfl (pd_c C_law_refused_fn hr (by decide) 0 (by decide) tk rfl (pda_cons pd_int (pda_cons (pd_ix rfl (pd_var (pv 8)) (pd_c C_law_next_fn hr (by decide) 0 (by decide) tk rfl (pda_cons (pd_var (pv 2)) (pda_cons pd_int pda_nil))) (fun _ _ => rfl)) (pda_cons (pd_var (pv 3)) (pda_cons (pd_var (pv 4)) pda_nil)))))))
      (pdss_one (pds_ret pd_bl))
      pdss_nil)
      (pdss_cons (pds_if (pdt_not (pdt_tru rfl (pd_c C_law_refused_fn hr (by decide) 0 (by decide) tk rfl (pda_cons pd_int (pda_cons (pd_mk rfl C_Block_init___mk hr (by decide) 4 (by decide) tk rfl (pda_cons pd_int (pda_cons pd_int (pda_cons pd_int (pda_cons pd_int pda_nil))))) (pda_cons (pd_var (pv 3)) (pda_cons (pd_var (pv 7)) pda_nil)))))))
      (pdss_one (pds_ret pd_bl))
      pdss_nil)
      (pdss_cons (pds_set hnd rfl (by first | exact Or.inl rfl | exact Or.inr rfl) (pd_lst (pda_cons pd_non (pda_cons (pd_reprO rfl C_PutRows_repr___mt hr (by decide) tk rfl T.f_repr (pd_mk rfl C_PutRows_init___mk hr (by decide) 1 (by decide) tk rfl (pda_cons (pd_var (pv 3)) (pda_cons (pd_var (pv 4)) pda_nil)))) (pda_cons (pd_tup (pda_cons (pd_var (pv 3)) (pda_cons (pd_var (pv 4)) pda_nil))) (pda_cons (pd_var (pv 3)) (pda_cons (pd_mk0 rfl C_Block_init___mk hr (by decide) 0 (by decide) tk rfl) pda_nil)))))))
      (pdss_one (pds_if (pdt_cmp (po_in rfl) pd_bl (pd_lc (own := [("_law_thing", 10)]) rfl (by exact hnd) (pdi_any rfl (pd_var (pv 9))) (blkOk_by (own := [("_law_thing", 10)]) (N := ["_law_script", "_law_cell", "_law_source_here", "_law_begin", "_law_count", "_law_way", "_law_piece", "_law_odd", "_law_bad", "_law_things", "_law_thing"]) (sc := defScope st_law) (by decide +kernel)) (by decide) (fun _ _ _ _ _ => (pdg_name hnd rfl (by first | exact Or.inl rfl | exact Or.inr rfl))) (fun _ _ _ _ _ => pdts_nil) (fun _ _ _ _ _ => (pd_own rfl C_PutRows_eq___mt hr (by decide) takesNo (T.ins n) (T.nf_PutRows n) (pd_mk rfl C_PutRows_init___mk hr (by decide) 1 (by decide) takesNo rfl (pda_cons (pd_var (pv 3)) (pda_cons (pd_var (pv 4)) pda_nil))) (pd_var (pv 10)) (nomark _)))) rfl)
      (pdss_one (pds_ret pd_bl))
      pdss_nil))))))))))))))))
      (pdss_one (pds_ret pd_bl)))
end
end K31
set_option maxHeartbeats 0
namespace K31
open PySem PySem.Spec PyProof.Rows L2 DL PG
def d_law_source : He.DefD := ⟨("_law_source", none), "_law_source", "_law_source", defArgs st_law_source, defBody st_law_source, defScope st_law_source, [], []⟩
def d_law_mixed : He.DefD := ⟨("_law_mixed", none), "_law_mixed", "_law_mixed", defArgs st_law_mixed, defBody st_law_mixed, defScope st_law_mixed, [], []⟩
def d_law_next : He.DefD := ⟨("_law_next", none), "_law_next", "_law_next", defArgs st_law_next, defBody st_law_next, defScope st_law_next, [], []⟩
def d_law_number : He.DefD := ⟨("_law_number", none), "_law_number", "_law_number", defArgs st_law_number, defBody st_law_number, defScope st_law_number, [], []⟩
def d_is_whole : He.DefD := ⟨("is_whole", none), "is_whole", "is_whole", defArgs st_is_whole, defBody st_is_whole, defScope st_is_whole, [], []⟩
def d_is_count : He.DefD := ⟨("is_count", none), "is_count", "is_count", defArgs st_is_count, defBody st_is_count, defScope st_is_count, [], []⟩
def d_PutRows_checked : He.DefD := ⟨("PutRows", some "checked"), "checked", "Change.checked", defArgs st_PutRows_checked, defBody st_PutRows_checked, defScope st_PutRows_checked, [], []⟩
def d_PutRows_init__ : He.DefD := ⟨("PutRows", some "__init__"), "__init__", "Lines.__init__", defArgs st_PutRows_init__, defBody st_PutRows_init__, defScope st_PutRows_init__, [(.int 1)], []⟩
def d_TakeRows_checked : He.DefD := ⟨("TakeRows", some "checked"), "checked", "Change.checked", defArgs st_TakeRows_checked, defBody st_TakeRows_checked, defScope st_TakeRows_checked, [], []⟩
def d_TakeRows_init__ : He.DefD := ⟨("TakeRows", some "__init__"), "__init__", "Lines.__init__", defArgs st_TakeRows_init__, defBody st_TakeRows_init__, defScope st_TakeRows_init__, [(.int 1)], []⟩
def d_PutColumns_checked : He.DefD := ⟨("PutColumns", some "checked"), "checked", "Change.checked", defArgs st_PutColumns_checked, defBody st_PutColumns_checked, defScope st_PutColumns_checked, [], []⟩
def d_PutColumns_init__ : He.DefD := ⟨("PutColumns", some "__init__"), "__init__", "Lines.__init__", defArgs st_PutColumns_init__, defBody st_PutColumns_init__, defScope st_PutColumns_init__, [(.int 1)], []⟩
def d_TakeColumns_checked : He.DefD := ⟨("TakeColumns", some "checked"), "checked", "Change.checked", defArgs st_TakeColumns_checked, defBody st_TakeColumns_checked, defScope st_TakeColumns_checked, [], []⟩
def d_TakeColumns_init__ : He.DefD := ⟨("TakeColumns", some "__init__"), "__init__", "Lines.__init__", defArgs st_TakeColumns_init__, defBody st_TakeColumns_init__, defScope st_TakeColumns_init__, [(.int 1)], []⟩
def d_law_lines : He.DefD := ⟨("_law_lines", none), "_law_lines", "_law_lines", defArgs st_law_lines, defBody st_law_lines, defScope st_law_lines, [], []⟩
def d_TakeColumns_repr__ : He.DefD := ⟨("TakeColumns", some "__repr__"), "__repr__", "TakeColumns.__repr__", defArgs st_TakeColumns_repr__, defBody st_TakeColumns_repr__, defScope st_TakeColumns_repr__, [], []⟩
def d_PutColumns_repr__ : He.DefD := ⟨("PutColumns", some "__repr__"), "__repr__", "PutColumns.__repr__", defArgs st_PutColumns_repr__, defBody st_PutColumns_repr__, defScope st_PutColumns_repr__, [], []⟩
def d_TakeRows_repr__ : He.DefD := ⟨("TakeRows", some "__repr__"), "__repr__", "TakeRows.__repr__", defArgs st_TakeRows_repr__, defBody st_TakeRows_repr__, defScope st_TakeRows_repr__, [], []⟩
def d_PutRows_repr__ : He.DefD := ⟨("PutRows", some "__repr__"), "__repr__", "PutRows.__repr__", defArgs st_PutRows_repr__, defBody st_PutRows_repr__, defScope st_PutRows_repr__, [], []⟩
def d_law_kinds : He.DefD := ⟨("_law_kinds", none), "_law_kinds", "_law_kinds", defArgs st_law_kinds, defBody st_law_kinds, defScope st_law_kinds, [], []⟩
def d_TakeColumns_undoing : He.DefD := ⟨("TakeColumns", some "undoing"), "undoing", "TakeColumns.undoing", defArgs st_TakeColumns_undoing, defBody st_TakeColumns_undoing, defScope st_TakeColumns_undoing, [], []⟩
def d_PutColumns_undoing : He.DefD := ⟨("PutColumns", some "undoing"), "undoing", "PutColumns.undoing", defArgs st_PutColumns_undoing, defBody st_PutColumns_undoing, defScope st_PutColumns_undoing, [], []⟩
def d_TakeRows_undoing : He.DefD := ⟨("TakeRows", some "undoing"), "undoing", "TakeRows.undoing", defArgs st_TakeRows_undoing, defBody st_TakeRows_undoing, defScope st_TakeRows_undoing, [], []⟩
def d_PutRows_undoing : He.DefD := ⟨("PutRows", some "undoing"), "undoing", "PutRows.undoing", defArgs st_PutRows_undoing, defBody st_PutRows_undoing, defScope st_PutRows_undoing, [], []⟩
def d_PutRows_eq__ : He.DefD := ⟨("PutRows", some "__eq__"), "__eq__", "PutRows.__eq__", defArgs st_PutRows_eq__, defBody st_PutRows_eq__, defScope st_PutRows_eq__, [], []⟩
def d_TakeRows_eq__ : He.DefD := ⟨("TakeRows", some "__eq__"), "__eq__", "TakeRows.__eq__", defArgs st_TakeRows_eq__, defBody st_TakeRows_eq__, defScope st_TakeRows_eq__, [], []⟩
def d_PutColumns_eq__ : He.DefD := ⟨("PutColumns", some "__eq__"), "__eq__", "PutColumns.__eq__", defArgs st_PutColumns_eq__, defBody st_PutColumns_eq__, defScope st_PutColumns_eq__, [], []⟩
def d_TakeColumns_eq__ : He.DefD := ⟨("TakeColumns", some "__eq__"), "__eq__", "TakeColumns.__eq__", defArgs st_TakeColumns_eq__, defBody st_TakeColumns_eq__, defScope st_TakeColumns_eq__, [], []⟩
def d_law_alone : He.DefD := ⟨("_law_alone", none), "_law_alone", "_law_alone", defArgs st_law_alone, defBody st_law_alone, defScope st_law_alone, [], []⟩
def d_law_lines_right : He.DefD := ⟨("_law_lines_right", none), "_law_lines_right", "_law_lines_right", defArgs st_law_lines_right, defBody st_law_lines_right, defScope st_law_lines_right, [], []⟩
def d_Move_checked : He.DefD := ⟨("Move", some "checked"), "checked", "Change.checked", defArgs st_Move_checked, defBody st_Move_checked, defScope st_Move_checked, [], []⟩
def d_Move_init__ : He.DefD := ⟨("Move", some "__init__"), "__init__", "Move.__init__", defArgs st_Move_init__, defBody st_Move_init__, defScope st_Move_init__, [], []⟩
def d_is_end : He.DefD := ⟨("is_end", none), "is_end", "is_end", defArgs st_is_end, defBody st_is_end, defScope st_is_end, [], []⟩
def d_Block_init__ : He.DefD := ⟨("Block", some "__init__"), "__init__", "Block.__init__", defArgs st_Block_init__, defBody st_Block_init__, defScope st_Block_init__, [(.int 1), (.int 1), .non, .non], []⟩
def d_Block_repr__ : He.DefD := ⟨("Block", some "__repr__"), "__repr__", "Block.__repr__", defArgs st_Block_repr__, defBody st_Block_repr__, defScope st_Block_repr__, [], []⟩
def d_Move_repr__ : He.DefD := ⟨("Move", some "__repr__"), "__repr__", "Move.__repr__", defArgs st_Move_repr__, defBody st_Move_repr__, defScope st_Move_repr__, [], []⟩
def d_Move_steps : He.DefD := ⟨("Move", some "steps"), "steps", "Move.steps", defArgs st_Move_steps, defBody st_Move_steps, defScope st_Move_steps, [], []⟩
def d_moved_ends : He.DefD := ⟨("moved_ends", none), "moved_ends", "moved_ends", defArgs st_moved_ends, defBody st_moved_ends, defScope st_moved_ends, [], []⟩
def d_moved_block : He.DefD := ⟨("moved_block", none), "moved_block", "moved_block", defArgs st_moved_block, defBody st_moved_block, defScope st_moved_block, [], []⟩
def d_Move_target : He.DefD := ⟨("Move", some "target"), "target", "Move.target", defArgs st_Move_target, defBody st_Move_target, defScope st_Move_target, [], []⟩
def d_Move_undoing : He.DefD := ⟨("Move", some "undoing"), "undoing", "Move.undoing", defArgs st_Move_undoing, defBody st_Move_undoing, defScope st_Move_undoing, [], []⟩
def d_Block_eq__ : He.DefD := ⟨("Block", some "__eq__"), "__eq__", "Block.__eq__", defArgs st_Block_eq__, defBody st_Block_eq__, defScope st_Block_eq__, [], []⟩
def d_Move_eq__ : He.DefD := ⟨("Move", some "__eq__"), "__eq__", "Move.__eq__", defArgs st_Move_eq__, defBody st_Move_eq__, defScope st_Move_eq__, [], []⟩
def d_law_move_right : He.DefD := ⟨("_law_move_right", none), "_law_move_right", "_law_move_right", defArgs st_law_move_right, defBody st_law_move_right, defScope st_law_move_right, [], []⟩
def d_law_refused : He.DefD := ⟨("_law_refused", none), "_law_refused", "_law_refused", defArgs st_law_refused, defBody st_law_refused, defScope st_law_refused, [], []⟩
def d_law : He.DefD := ⟨("law", none), "law", "law", defArgs st_law, defBody st_law, defScope st_law, [], []⟩
def fns0 : List He.DefD := [d_law_source, d_law_mixed, d_law_next, d_law_number, d_is_whole, d_is_count, d_PutRows_checked, d_PutRows_init__, d_TakeRows_checked, d_TakeRows_init__, d_PutColumns_checked, d_PutColumns_init__, d_TakeColumns_checked, d_TakeColumns_init__, d_law_lines, d_TakeColumns_repr__, d_PutColumns_repr__, d_TakeRows_repr__, d_PutRows_repr__, d_law_kinds, d_TakeColumns_undoing, d_PutColumns_undoing, d_TakeRows_undoing, d_PutRows_undoing, d_PutRows_eq__, d_TakeRows_eq__, d_PutColumns_eq__, d_TakeColumns_eq__, d_law_alone, d_law_lines_right]
def fns1 : List He.DefD := [d_Move_checked, d_Move_init__, d_is_end, d_Block_init__, d_Block_repr__, d_Move_repr__, d_Move_steps, d_moved_ends, d_moved_block, d_Move_target, d_Move_undoing, d_Block_eq__, d_Move_eq__, d_law_move_right, d_law_refused, d_law]
def fns : List He.DefD := fns0 ++ (fns1)
def fas0 : List He.Fa := [.glo "Block", .glo "CellError", .glo "Change", .glo "Move", .glo "NoBlock", .glo "NoCell", .glo "NoChange", .glo "NoNumber", .glo "PutColumns", .glo "PutRows", .glo "TakeColumns", .glo "TakeRows", .free "all", .free "bool", .free "int", .free "isinstance", .free "max", .free "range", .free "repr", .free "str", .str "LETTERS" "ABCDEFGHIJKLMNOPQRSTUVWXYZ", .exc "NoBlock", .exc "NoChange", .noat "Block" "at", .noat "Change" "at", .noat "Lines" "at", .noat "OfRows" "at", .noat "OfColumns" "at", .noat "PutRows" "at", .noat "TakeRows" "at"]
def fas1 : List He.Fa := [.noat "PutColumns" "at", .noat "TakeColumns" "at", .noat "Move" "at", .noat "Block" "block", .noat "Change" "block", .noat "Lines" "block", .noat "OfRows" "block", .noat "OfColumns" "block", .noat "PutRows" "block", .noat "TakeRows" "block", .noat "PutColumns" "block", .noat "TakeColumns" "block", .noat "Move" "block", .noat "Block" "bottom", .noat "Change" "bottom", .noat "Lines" "bottom", .noat "OfRows" "bottom", .noat "OfColumns" "bottom", .noat "PutRows" "bottom", .noat "TakeRows" "bottom", .noat "PutColumns" "bottom", .noat "TakeColumns" "bottom", .noat "Move" "bottom", .noat "Block" "column", .noat "Change" "column", .noat "Lines" "column", .noat "OfRows" "column", .noat "OfColumns" "column", .noat "PutRows" "column", .noat "TakeRows" "column"]
def fas2 : List He.Fa := [.noat "PutColumns" "column", .noat "TakeColumns" "column", .noat "Move" "column", .noat "Block" "left", .noat "Change" "left", .noat "Lines" "left", .noat "OfRows" "left", .noat "OfColumns" "left", .noat "PutRows" "left", .noat "TakeRows" "left", .noat "PutColumns" "left", .noat "TakeColumns" "left", .noat "Move" "left", .noat "Block" "many", .noat "Change" "many", .noat "Lines" "many", .noat "OfRows" "many", .noat "OfColumns" "many", .noat "PutRows" "many", .noat "TakeRows" "many", .noat "PutColumns" "many", .noat "TakeColumns" "many", .noat "Move" "many", .noat "Block" "right", .noat "Change" "right", .noat "Lines" "right", .noat "OfRows" "right", .noat "OfColumns" "right", .noat "PutRows" "right", .noat "TakeRows" "right"]
def fas3 : List He.Fa := [.noat "PutColumns" "right", .noat "TakeColumns" "right", .noat "Move" "right", .noat "Block" "row", .noat "Change" "row", .noat "Lines" "row", .noat "OfRows" "row", .noat "OfColumns" "row", .noat "PutRows" "row", .noat "TakeRows" "row", .noat "PutColumns" "row", .noat "TakeColumns" "row", .noat "Move" "row", .noat "Block" "top", .noat "Change" "top", .noat "Lines" "top", .noat "OfRows" "top", .noat "OfColumns" "top", .noat "PutRows" "top", .noat "TakeRows" "top", .noat "PutColumns" "top", .noat "TakeColumns" "top", .noat "Move" "top", .cls "Block", .cls "Change", .cls "Lines", .cls "OfRows", .cls "OfColumns", .cls "PutRows", .cls "TakeRows"]
def fas4 : List He.Fa := [.cls "PutColumns", .cls "TakeColumns", .cls "Move", .glo "_law_source", .glo "_law_mixed", .glo "_law_next", .glo "_law_number", .glo "is_whole", .glo "is_count", .glo "_law_lines", .glo "_law_kinds", .glo "_law_alone", .glo "_law_lines_right", .glo "is_end", .glo "moved_ends", .glo "moved_block", .glo "_law_move_right", .glo "_law_refused", .glo "law", .meth "PutRows" "checked", .mkr "PutRows", .meth "TakeRows" "checked", .mkr "TakeRows", .meth "PutColumns" "checked", .mkr "PutColumns", .meth "TakeColumns" "checked", .mkr "TakeColumns", .meth "TakeColumns" "__repr__", .meth "PutColumns" "__repr__", .meth "TakeRows" "__repr__"]
def fas5 : List He.Fa := [.meth "PutRows" "__repr__", .meth "TakeColumns" "undoing", .meth "PutColumns" "undoing", .meth "TakeRows" "undoing", .meth "PutRows" "undoing", .meth "PutRows" "__eq__", .meth "TakeRows" "__eq__", .meth "PutColumns" "__eq__", .meth "TakeColumns" "__eq__", .meth "Move" "checked", .mkr "Move", .mkr "Block", .meth "Block" "__repr__", .meth "Move" "__repr__", .meth "Move" "steps", .meth "Move" "target", .meth "Move" "undoing", .meth "Block" "__eq__", .meth "Move" "__eq__"]
def fas : List He.Fa := fas0 ++ (fas1 ++ (fas2 ++ (fas3 ++ (fas4 ++ (fas5)))))
def chk (K : PySem.W.Frag) : Bool := insB K (He.ga K "Block") && (insB K (He.ga K "Change") && (insB K (He.ga K "Lines") && (insB K (He.ga K "OfRows") && (insB K (He.ga K "OfColumns") && (insB K (He.ga K "PutRows") && (insB K (He.ga K "TakeRows") && (insB K (He.ga K "PutColumns") && (insB K (He.ga K "TakeColumns") && (insB K (He.ga K "Move") && (kitB (S0 K) (.inr "Block") && (kitB (S0 K) (.inr "Change") && (kitB (S0 K) (.inr "Move") && (kitB (S0 K) (.inr "PutColumns") && (kitB (S0 K) (.inr "PutRows") && (kitB (S0 K) (.inr "TakeColumns") && (kitB (S0 K) (.inr "TakeRows") && (kitB (S0 K) (.inl "bool") && (kitB (S0 K) (.inl "int") && (excsB (S0 K) (["NoChange"] : List Str) (.inr "NoBlock") && (excsB (S0 K) (["NoChange"] : List Str) (.inr "NoCell") && (excsB (S0 K) (["NoChange"] : List Str) (.inr "NoChange") && (excsB (S0 K) (["NoChange"] : List Str) (.inr "NoNumber") && (exmB (S0 K) (["NoChange"] : List Str) "CellError" && (nfB (S0 K) "Block" && (nfB (S0 K) "Move" && (nfB (S0 K) "PutColumns" && (nfB (S0 K) "PutRows" && (nfB (S0 K) "TakeColumns" && (nfB (S0 K) "TakeRows" && (neB (S0 K) "Block" && (neB (S0 K) "Move" && (neB (S0 K) "PutColumns" && (neB (S0 K) "PutRows" && (neB (S0 K) "TakeColumns" && (neB (S0 K) "TakeRows")))))))))))))))))))))))))))))))))))
def nms0 : List Str := ["_wall", "CellError", "NoCell", "NoColumn", "NoBlock", "NoNumber", "NoChange", "is_whole", "is_count", "is_cell", "checked_cell", "LETTERS", "letters_of", "is_end", "is_rows", "is_columns", "letters_ahead", "by_ends", "Block", "row_text", "column_text", "moved_ends", "moved_block", "Change", "put_pieces", "taken_pieces", "spanned", "rows_by", "columns_by", "Lines"]
def nms1 : List Str := ["OfRows", "OfColumns", "PutRows", "TakeRows", "PutColumns", "TakeColumns", "Move", "_law_cell_at", "_law_mixed", "_law_source", "_law_next", "_law_lines", "_law_alone", "_law_kinds", "_law_refused", "_law_number", "_law_lines_right", "_law_move_right"]
def nms : List Str := nms0 ++ (nms1)
abbrev R : PySem.W.OpenRow := PySem.W.OpenLaw.row PySem.Challenge.rw_cellblocks_k31_changes_made
abbrev hk : PySem.W.Hook := hookX 4 chk fas fns
def ob (s : PySem.W.SharedT) : AlX := obsXG 4 chk fas fns (HandSHeadRun.getT s)
theorem ob_eq (s : PySem.W.SharedT) : ob s = hk.obs s.abs := obsXG_eq (HandSHeadRun.getT_eq s)
theorem run (w : World) : HandSHeadRun.RunEq R (PySem.W.view R.prog [55]) hk ob 16000 nms w := by
  intro os
  kernel_rfl
section
variable {P : Program} {w : World} {K : PySem.W.Frag} {mg : Str → Option Value} {base h : Heap}
theorem fx (X : K.In h) (G : h.Ns mainGlobals mg) (ck : chk K = true) (c : He.SaysD fas fns K) : Fx K mg := by
  obtain ⟨k0, ck⟩ := Bool.and_eq_true_iff.mp ck
  obtain ⟨k1, ck⟩ := Bool.and_eq_true_iff.mp ck
  obtain ⟨k2, ck⟩ := Bool.and_eq_true_iff.mp ck
  obtain ⟨k3, ck⟩ := Bool.and_eq_true_iff.mp ck
  obtain ⟨k4, ck⟩ := Bool.and_eq_true_iff.mp ck
  obtain ⟨k5, ck⟩ := Bool.and_eq_true_iff.mp ck
  obtain ⟨k6, ck⟩ := Bool.and_eq_true_iff.mp ck
  obtain ⟨k7, ck⟩ := Bool.and_eq_true_iff.mp ck
  obtain ⟨k8, ck⟩ := Bool.and_eq_true_iff.mp ck
  obtain ⟨k9, ck⟩ := Bool.and_eq_true_iff.mp ck
  obtain ⟨k10, ck⟩ := Bool.and_eq_true_iff.mp ck
  obtain ⟨k11, ck⟩ := Bool.and_eq_true_iff.mp ck
  obtain ⟨k12, ck⟩ := Bool.and_eq_true_iff.mp ck
  obtain ⟨k13, ck⟩ := Bool.and_eq_true_iff.mp ck
  obtain ⟨k14, ck⟩ := Bool.and_eq_true_iff.mp ck
  obtain ⟨k15, ck⟩ := Bool.and_eq_true_iff.mp ck
  obtain ⟨k16, ck⟩ := Bool.and_eq_true_iff.mp ck
  obtain ⟨k17, ck⟩ := Bool.and_eq_true_iff.mp ck
  obtain ⟨k18, ck⟩ := Bool.and_eq_true_iff.mp ck
  obtain ⟨k19, ck⟩ := Bool.and_eq_true_iff.mp ck
  obtain ⟨k20, ck⟩ := Bool.and_eq_true_iff.mp ck
  obtain ⟨k21, ck⟩ := Bool.and_eq_true_iff.mp ck
  obtain ⟨k22, ck⟩ := Bool.and_eq_true_iff.mp ck
  obtain ⟨k23, ck⟩ := Bool.and_eq_true_iff.mp ck
  obtain ⟨k24, ck⟩ := Bool.and_eq_true_iff.mp ck
  obtain ⟨k25, ck⟩ := Bool.and_eq_true_iff.mp ck
  obtain ⟨k26, ck⟩ := Bool.and_eq_true_iff.mp ck
  obtain ⟨k27, ck⟩ := Bool.and_eq_true_iff.mp ck
  obtain ⟨k28, ck⟩ := Bool.and_eq_true_iff.mp ck
  obtain ⟨k29, ck⟩ := Bool.and_eq_true_iff.mp ck
  obtain ⟨k30, ck⟩ := Bool.and_eq_true_iff.mp ck
  obtain ⟨k31, ck⟩ := Bool.and_eq_true_iff.mp ck
  obtain ⟨k32, ck⟩ := Bool.and_eq_true_iff.mp ck
  obtain ⟨k33, ck⟩ := Bool.and_eq_true_iff.mp ck
  obtain ⟨k34, ck⟩ := Bool.and_eq_true_iff.mp ck
  have k35 := ck
  exact {
    g_Block := He.glo_ok X G (c.fact 0 (f := .glo "Block") rfl)
    g_CellError := He.glo_ok X G (c.fact 1 (f := .glo "CellError") rfl)
    g_Change := He.glo_ok X G (c.fact 2 (f := .glo "Change") rfl)
    g_Move := He.glo_ok X G (c.fact 3 (f := .glo "Move") rfl)
    g_NoBlock := He.glo_ok X G (c.fact 4 (f := .glo "NoBlock") rfl)
    g_NoCell := He.glo_ok X G (c.fact 5 (f := .glo "NoCell") rfl)
    g_NoChange := He.glo_ok X G (c.fact 6 (f := .glo "NoChange") rfl)
    g_NoNumber := He.glo_ok X G (c.fact 7 (f := .glo "NoNumber") rfl)
    g_PutColumns := He.glo_ok X G (c.fact 8 (f := .glo "PutColumns") rfl)
    g_PutRows := He.glo_ok X G (c.fact 9 (f := .glo "PutRows") rfl)
    g_TakeColumns := He.glo_ok X G (c.fact 10 (f := .glo "TakeColumns") rfl)
    g_TakeRows := He.glo_ok X G (c.fact 11 (f := .glo "TakeRows") rfl)
    f_all := He.free_ok X G (c.fact 12 (f := .free "all") rfl)
    f_bool := He.free_ok X G (c.fact 13 (f := .free "bool") rfl)
    f_int := He.free_ok X G (c.fact 14 (f := .free "int") rfl)
    f_isinstance := He.free_ok X G (c.fact 15 (f := .free "isinstance") rfl)
    f_max := He.free_ok X G (c.fact 16 (f := .free "max") rfl)
    f_range := He.free_ok X G (c.fact 17 (f := .free "range") rfl)
    f_repr := He.free_ok X G (c.fact 18 (f := .free "repr") rfl)
    f_str := He.free_ok X G (c.fact 19 (f := .free "str") rfl)
    c_LETTERS := He.str_ok X G (c.fact 20 (f := .str "LETTERS" "ABCDEFGHIJKLMNOPQRSTUVWXYZ") rfl)
    x_NoBlock := fun n => exF_of (c.fact 21 (f := .exc "NoBlock") rfl)
    x_NoChange := fun n => exF_of (c.fact 22 (f := .exc "NoChange") rfl)
    n_at := fun n => (all_cons ⟨He.cls_ok (c.fact 113 (f := .cls "Block") rfl), He.noat_ok (c.fact 23 (f := .noat "Block" "at") rfl)⟩ (all_cons ⟨He.cls_ok (c.fact 114 (f := .cls "Change") rfl), He.noat_ok (c.fact 24 (f := .noat "Change" "at") rfl)⟩ (all_cons ⟨He.cls_ok (c.fact 115 (f := .cls "Lines") rfl), He.noat_ok (c.fact 25 (f := .noat "Lines" "at") rfl)⟩ (all_cons ⟨He.cls_ok (c.fact 116 (f := .cls "OfRows") rfl), He.noat_ok (c.fact 26 (f := .noat "OfRows" "at") rfl)⟩ (all_cons ⟨He.cls_ok (c.fact 117 (f := .cls "OfColumns") rfl), He.noat_ok (c.fact 27 (f := .noat "OfColumns" "at") rfl)⟩ (all_cons ⟨He.cls_ok (c.fact 118 (f := .cls "PutRows") rfl), He.noat_ok (c.fact 28 (f := .noat "PutRows" "at") rfl)⟩ (all_cons ⟨He.cls_ok (c.fact 119 (f := .cls "TakeRows") rfl), He.noat_ok (c.fact 29 (f := .noat "TakeRows" "at") rfl)⟩ (all_cons ⟨He.cls_ok (c.fact 120 (f := .cls "PutColumns") rfl), He.noat_ok (c.fact 30 (f := .noat "PutColumns" "at") rfl)⟩ (all_cons ⟨He.cls_ok (c.fact 121 (f := .cls "TakeColumns") rfl), He.noat_ok (c.fact 31 (f := .noat "TakeColumns" "at") rfl)⟩ (all_cons ⟨He.cls_ok (c.fact 122 (f := .cls "Move") rfl), He.noat_ok (c.fact 32 (f := .noat "Move" "at") rfl)⟩ all_nil))))))))))
    n_block := fun n => (all_cons ⟨He.cls_ok (c.fact 113 (f := .cls "Block") rfl), He.noat_ok (c.fact 33 (f := .noat "Block" "block") rfl)⟩ (all_cons ⟨He.cls_ok (c.fact 114 (f := .cls "Change") rfl), He.noat_ok (c.fact 34 (f := .noat "Change" "block") rfl)⟩ (all_cons ⟨He.cls_ok (c.fact 115 (f := .cls "Lines") rfl), He.noat_ok (c.fact 35 (f := .noat "Lines" "block") rfl)⟩ (all_cons ⟨He.cls_ok (c.fact 116 (f := .cls "OfRows") rfl), He.noat_ok (c.fact 36 (f := .noat "OfRows" "block") rfl)⟩ (all_cons ⟨He.cls_ok (c.fact 117 (f := .cls "OfColumns") rfl), He.noat_ok (c.fact 37 (f := .noat "OfColumns" "block") rfl)⟩ (all_cons ⟨He.cls_ok (c.fact 118 (f := .cls "PutRows") rfl), He.noat_ok (c.fact 38 (f := .noat "PutRows" "block") rfl)⟩ (all_cons ⟨He.cls_ok (c.fact 119 (f := .cls "TakeRows") rfl), He.noat_ok (c.fact 39 (f := .noat "TakeRows" "block") rfl)⟩ (all_cons ⟨He.cls_ok (c.fact 120 (f := .cls "PutColumns") rfl), He.noat_ok (c.fact 40 (f := .noat "PutColumns" "block") rfl)⟩ (all_cons ⟨He.cls_ok (c.fact 121 (f := .cls "TakeColumns") rfl), He.noat_ok (c.fact 41 (f := .noat "TakeColumns" "block") rfl)⟩ (all_cons ⟨He.cls_ok (c.fact 122 (f := .cls "Move") rfl), He.noat_ok (c.fact 42 (f := .noat "Move" "block") rfl)⟩ all_nil))))))))))
    n_bottom := fun n => (all_cons ⟨He.cls_ok (c.fact 113 (f := .cls "Block") rfl), He.noat_ok (c.fact 43 (f := .noat "Block" "bottom") rfl)⟩ (all_cons ⟨He.cls_ok (c.fact 114 (f := .cls "Change") rfl), He.noat_ok (c.fact 44 (f := .noat "Change" "bottom") rfl)⟩ (all_cons ⟨He.cls_ok (c.fact 115 (f := .cls "Lines") rfl), He.noat_ok (c.fact 45 (f := .noat "Lines" "bottom") rfl)⟩ (all_cons ⟨He.cls_ok (c.fact 116 (f := .cls "OfRows") rfl), He.noat_ok (c.fact 46 (f := .noat "OfRows" "bottom") rfl)⟩ (all_cons ⟨He.cls_ok (c.fact 117 (f := .cls "OfColumns") rfl), He.noat_ok (c.fact 47 (f := .noat "OfColumns" "bottom") rfl)⟩ (all_cons ⟨He.cls_ok (c.fact 118 (f := .cls "PutRows") rfl), He.noat_ok (c.fact 48 (f := .noat "PutRows" "bottom") rfl)⟩ (all_cons ⟨He.cls_ok (c.fact 119 (f := .cls "TakeRows") rfl), He.noat_ok (c.fact 49 (f := .noat "TakeRows" "bottom") rfl)⟩ (all_cons ⟨He.cls_ok (c.fact 120 (f := .cls "PutColumns") rfl), He.noat_ok (c.fact 50 (f := .noat "PutColumns" "bottom") rfl)⟩ (all_cons ⟨He.cls_ok (c.fact 121 (f := .cls "TakeColumns") rfl), He.noat_ok (c.fact 51 (f := .noat "TakeColumns" "bottom") rfl)⟩ (all_cons ⟨He.cls_ok (c.fact 122 (f := .cls "Move") rfl), He.noat_ok (c.fact 52 (f := .noat "Move" "bottom") rfl)⟩ all_nil))))))))))
    n_column := fun n => (all_cons ⟨He.cls_ok (c.fact 113 (f := .cls "Block") rfl), He.noat_ok (c.fact 53 (f := .noat "Block" "column") rfl)⟩ (all_cons ⟨He.cls_ok (c.fact 114 (f := .cls "Change") rfl), He.noat_ok (c.fact 54 (f := .noat "Change" "column") rfl)⟩ (all_cons ⟨He.cls_ok (c.fact 115 (f := .cls "Lines") rfl), He.noat_ok (c.fact 55 (f := .noat "Lines" "column") rfl)⟩ (all_cons ⟨He.cls_ok (c.fact 116 (f := .cls "OfRows") rfl), He.noat_ok (c.fact 56 (f := .noat "OfRows" "column") rfl)⟩ (all_cons ⟨He.cls_ok (c.fact 117 (f := .cls "OfColumns") rfl), He.noat_ok (c.fact 57 (f := .noat "OfColumns" "column") rfl)⟩ (all_cons ⟨He.cls_ok (c.fact 118 (f := .cls "PutRows") rfl), He.noat_ok (c.fact 58 (f := .noat "PutRows" "column") rfl)⟩ (all_cons ⟨He.cls_ok (c.fact 119 (f := .cls "TakeRows") rfl), He.noat_ok (c.fact 59 (f := .noat "TakeRows" "column") rfl)⟩ (all_cons ⟨He.cls_ok (c.fact 120 (f := .cls "PutColumns") rfl), He.noat_ok (c.fact 60 (f := .noat "PutColumns" "column") rfl)⟩ (all_cons ⟨He.cls_ok (c.fact 121 (f := .cls "TakeColumns") rfl), He.noat_ok (c.fact 61 (f := .noat "TakeColumns" "column") rfl)⟩ (all_cons ⟨He.cls_ok (c.fact 122 (f := .cls "Move") rfl), He.noat_ok (c.fact 62 (f := .noat "Move" "column") rfl)⟩ all_nil))))))))))
    n_left := fun n => (all_cons ⟨He.cls_ok (c.fact 113 (f := .cls "Block") rfl), He.noat_ok (c.fact 63 (f := .noat "Block" "left") rfl)⟩ (all_cons ⟨He.cls_ok (c.fact 114 (f := .cls "Change") rfl), He.noat_ok (c.fact 64 (f := .noat "Change" "left") rfl)⟩ (all_cons ⟨He.cls_ok (c.fact 115 (f := .cls "Lines") rfl), He.noat_ok (c.fact 65 (f := .noat "Lines" "left") rfl)⟩ (all_cons ⟨He.cls_ok (c.fact 116 (f := .cls "OfRows") rfl), He.noat_ok (c.fact 66 (f := .noat "OfRows" "left") rfl)⟩ (all_cons ⟨He.cls_ok (c.fact 117 (f := .cls "OfColumns") rfl), He.noat_ok (c.fact 67 (f := .noat "OfColumns" "left") rfl)⟩ (all_cons ⟨He.cls_ok (c.fact 118 (f := .cls "PutRows") rfl), He.noat_ok (c.fact 68 (f := .noat "PutRows" "left") rfl)⟩ (all_cons ⟨He.cls_ok (c.fact 119 (f := .cls "TakeRows") rfl), He.noat_ok (c.fact 69 (f := .noat "TakeRows" "left") rfl)⟩ (all_cons ⟨He.cls_ok (c.fact 120 (f := .cls "PutColumns") rfl), He.noat_ok (c.fact 70 (f := .noat "PutColumns" "left") rfl)⟩ (all_cons ⟨He.cls_ok (c.fact 121 (f := .cls "TakeColumns") rfl), He.noat_ok (c.fact 71 (f := .noat "TakeColumns" "left") rfl)⟩ (all_cons ⟨He.cls_ok (c.fact 122 (f := .cls "Move") rfl), He.noat_ok (c.fact 72 (f := .noat "Move" "left") rfl)⟩ all_nil))))))))))
    n_many := fun n => (all_cons ⟨He.cls_ok (c.fact 113 (f := .cls "Block") rfl), He.noat_ok (c.fact 73 (f := .noat "Block" "many") rfl)⟩ (all_cons ⟨He.cls_ok (c.fact 114 (f := .cls "Change") rfl), He.noat_ok (c.fact 74 (f := .noat "Change" "many") rfl)⟩ (all_cons ⟨He.cls_ok (c.fact 115 (f := .cls "Lines") rfl), He.noat_ok (c.fact 75 (f := .noat "Lines" "many") rfl)⟩ (all_cons ⟨He.cls_ok (c.fact 116 (f := .cls "OfRows") rfl), He.noat_ok (c.fact 76 (f := .noat "OfRows" "many") rfl)⟩ (all_cons ⟨He.cls_ok (c.fact 117 (f := .cls "OfColumns") rfl), He.noat_ok (c.fact 77 (f := .noat "OfColumns" "many") rfl)⟩ (all_cons ⟨He.cls_ok (c.fact 118 (f := .cls "PutRows") rfl), He.noat_ok (c.fact 78 (f := .noat "PutRows" "many") rfl)⟩ (all_cons ⟨He.cls_ok (c.fact 119 (f := .cls "TakeRows") rfl), He.noat_ok (c.fact 79 (f := .noat "TakeRows" "many") rfl)⟩ (all_cons ⟨He.cls_ok (c.fact 120 (f := .cls "PutColumns") rfl), He.noat_ok (c.fact 80 (f := .noat "PutColumns" "many") rfl)⟩ (all_cons ⟨He.cls_ok (c.fact 121 (f := .cls "TakeColumns") rfl), He.noat_ok (c.fact 81 (f := .noat "TakeColumns" "many") rfl)⟩ (all_cons ⟨He.cls_ok (c.fact 122 (f := .cls "Move") rfl), He.noat_ok (c.fact 82 (f := .noat "Move" "many") rfl)⟩ all_nil))))))))))
    n_right := fun n => (all_cons ⟨He.cls_ok (c.fact 113 (f := .cls "Block") rfl), He.noat_ok (c.fact 83 (f := .noat "Block" "right") rfl)⟩ (all_cons ⟨He.cls_ok (c.fact 114 (f := .cls "Change") rfl), He.noat_ok (c.fact 84 (f := .noat "Change" "right") rfl)⟩ (all_cons ⟨He.cls_ok (c.fact 115 (f := .cls "Lines") rfl), He.noat_ok (c.fact 85 (f := .noat "Lines" "right") rfl)⟩ (all_cons ⟨He.cls_ok (c.fact 116 (f := .cls "OfRows") rfl), He.noat_ok (c.fact 86 (f := .noat "OfRows" "right") rfl)⟩ (all_cons ⟨He.cls_ok (c.fact 117 (f := .cls "OfColumns") rfl), He.noat_ok (c.fact 87 (f := .noat "OfColumns" "right") rfl)⟩ (all_cons ⟨He.cls_ok (c.fact 118 (f := .cls "PutRows") rfl), He.noat_ok (c.fact 88 (f := .noat "PutRows" "right") rfl)⟩ (all_cons ⟨He.cls_ok (c.fact 119 (f := .cls "TakeRows") rfl), He.noat_ok (c.fact 89 (f := .noat "TakeRows" "right") rfl)⟩ (all_cons ⟨He.cls_ok (c.fact 120 (f := .cls "PutColumns") rfl), He.noat_ok (c.fact 90 (f := .noat "PutColumns" "right") rfl)⟩ (all_cons ⟨He.cls_ok (c.fact 121 (f := .cls "TakeColumns") rfl), He.noat_ok (c.fact 91 (f := .noat "TakeColumns" "right") rfl)⟩ (all_cons ⟨He.cls_ok (c.fact 122 (f := .cls "Move") rfl), He.noat_ok (c.fact 92 (f := .noat "Move" "right") rfl)⟩ all_nil))))))))))
    n_row := fun n => (all_cons ⟨He.cls_ok (c.fact 113 (f := .cls "Block") rfl), He.noat_ok (c.fact 93 (f := .noat "Block" "row") rfl)⟩ (all_cons ⟨He.cls_ok (c.fact 114 (f := .cls "Change") rfl), He.noat_ok (c.fact 94 (f := .noat "Change" "row") rfl)⟩ (all_cons ⟨He.cls_ok (c.fact 115 (f := .cls "Lines") rfl), He.noat_ok (c.fact 95 (f := .noat "Lines" "row") rfl)⟩ (all_cons ⟨He.cls_ok (c.fact 116 (f := .cls "OfRows") rfl), He.noat_ok (c.fact 96 (f := .noat "OfRows" "row") rfl)⟩ (all_cons ⟨He.cls_ok (c.fact 117 (f := .cls "OfColumns") rfl), He.noat_ok (c.fact 97 (f := .noat "OfColumns" "row") rfl)⟩ (all_cons ⟨He.cls_ok (c.fact 118 (f := .cls "PutRows") rfl), He.noat_ok (c.fact 98 (f := .noat "PutRows" "row") rfl)⟩ (all_cons ⟨He.cls_ok (c.fact 119 (f := .cls "TakeRows") rfl), He.noat_ok (c.fact 99 (f := .noat "TakeRows" "row") rfl)⟩ (all_cons ⟨He.cls_ok (c.fact 120 (f := .cls "PutColumns") rfl), He.noat_ok (c.fact 100 (f := .noat "PutColumns" "row") rfl)⟩ (all_cons ⟨He.cls_ok (c.fact 121 (f := .cls "TakeColumns") rfl), He.noat_ok (c.fact 101 (f := .noat "TakeColumns" "row") rfl)⟩ (all_cons ⟨He.cls_ok (c.fact 122 (f := .cls "Move") rfl), He.noat_ok (c.fact 102 (f := .noat "Move" "row") rfl)⟩ all_nil))))))))))
    n_top := fun n => (all_cons ⟨He.cls_ok (c.fact 113 (f := .cls "Block") rfl), He.noat_ok (c.fact 103 (f := .noat "Block" "top") rfl)⟩ (all_cons ⟨He.cls_ok (c.fact 114 (f := .cls "Change") rfl), He.noat_ok (c.fact 104 (f := .noat "Change" "top") rfl)⟩ (all_cons ⟨He.cls_ok (c.fact 115 (f := .cls "Lines") rfl), He.noat_ok (c.fact 105 (f := .noat "Lines" "top") rfl)⟩ (all_cons ⟨He.cls_ok (c.fact 116 (f := .cls "OfRows") rfl), He.noat_ok (c.fact 106 (f := .noat "OfRows" "top") rfl)⟩ (all_cons ⟨He.cls_ok (c.fact 117 (f := .cls "OfColumns") rfl), He.noat_ok (c.fact 107 (f := .noat "OfColumns" "top") rfl)⟩ (all_cons ⟨He.cls_ok (c.fact 118 (f := .cls "PutRows") rfl), He.noat_ok (c.fact 108 (f := .noat "PutRows" "top") rfl)⟩ (all_cons ⟨He.cls_ok (c.fact 119 (f := .cls "TakeRows") rfl), He.noat_ok (c.fact 109 (f := .noat "TakeRows" "top") rfl)⟩ (all_cons ⟨He.cls_ok (c.fact 120 (f := .cls "PutColumns") rfl), He.noat_ok (c.fact 110 (f := .noat "PutColumns" "top") rfl)⟩ (all_cons ⟨He.cls_ok (c.fact 121 (f := .cls "TakeColumns") rfl), He.noat_ok (c.fact 111 (f := .noat "TakeColumns" "top") rfl)⟩ (all_cons ⟨He.cls_ok (c.fact 122 (f := .cls "Move") rfl), He.noat_ok (c.fact 112 (f := .noat "Move" "top") rfl)⟩ all_nil))))))))))
    ins := fun n => (all_cons (insB_ok (He.cls_ok (c.fact 113 (f := .cls "Block") rfl)) k0) (all_cons (insB_ok (He.cls_ok (c.fact 114 (f := .cls "Change") rfl)) k1) (all_cons (insB_ok (He.cls_ok (c.fact 115 (f := .cls "Lines") rfl)) k2) (all_cons (insB_ok (He.cls_ok (c.fact 116 (f := .cls "OfRows") rfl)) k3) (all_cons (insB_ok (He.cls_ok (c.fact 117 (f := .cls "OfColumns") rfl)) k4) (all_cons (insB_ok (He.cls_ok (c.fact 118 (f := .cls "PutRows") rfl)) k5) (all_cons (insB_ok (He.cls_ok (c.fact 119 (f := .cls "TakeRows") rfl)) k6) (all_cons (insB_ok (He.cls_ok (c.fact 120 (f := .cls "PutColumns") rfl)) k7) (all_cons (insB_ok (He.cls_ok (c.fact 121 (f := .cls "TakeColumns") rfl)) k8) (all_cons (insB_ok (He.cls_ok (c.fact 122 (f := .cls "Move") rfl)) k9) all_nil))))))))))
    k_Block := fun n => kitB_ok (S := S0 K) k10
    k_Change := fun n => kitB_ok (S := S0 K) k11
    k_Move := fun n => kitB_ok (S := S0 K) k12
    k_PutColumns := fun n => kitB_ok (S := S0 K) k13
    k_PutRows := fun n => kitB_ok (S := S0 K) k14
    k_TakeColumns := fun n => kitB_ok (S := S0 K) k15
    k_TakeRows := fun n => kitB_ok (S := S0 K) k16
    k_bool := fun n => kitB_ok (S := S0 K) k17
    k_int := fun n => kitB_ok (S := S0 K) k18
    xk_NoBlock := fun n => (fun h => excsB_at (S := S0 K) h n) k19
    xk_NoCell := fun n => (fun h => excsB_at (S := S0 K) h n) k20
    xk_NoChange := fun n => (fun h => excsB_at (S := S0 K) h n) k21
    xk_NoNumber := fun n => (fun h => excsB_at (S := S0 K) h n) k22
    xm_CellError := fun n => exmB_ok (S := S0 K) k23
    nf_Block := fun n => nfB_ok (S := S0 K) k24
    nf_Move := fun n => nfB_ok (S := S0 K) k25
    nf_PutColumns := fun n => nfB_ok (S := S0 K) k26
    nf_PutRows := fun n => nfB_ok (S := S0 K) k27
    nf_TakeColumns := fun n => nfB_ok (S := S0 K) k28
    nf_TakeRows := fun n => nfB_ok (S := S0 K) k29
    ne_Block := fun n => neB_at (S := S0 K) k30
    ne_Move := fun n => neB_at (S := S0 K) k31
    ne_PutColumns := fun n => neB_at (S := S0 K) k32
    ne_PutRows := fun n => neB_at (S := S0 K) k33
    ne_TakeColumns := fun n => neB_at (S := S0 K) k34
    ne_TakeRows := fun n => neB_at (S := S0 K) k35 }
theorem facts (X : K.In h) (G : h.Ns mainGlobals mg) {f : Addr} (hfa : mg ("law" : Str) = some (.ref f)) (ck : chk K = true) (c : He.SaysD fas fns K) :
    ∃ fd : FuncData, (∀ (s : Shared) (v : Value), BindsTo s fd ⟨[v], []⟩ [("_law_script", v)]) ∧ ∀ base : Heap, K.In base → base.Ns mainGlobals mg → FnOk P w K mg base (CXA P) 10 f fd ["_law_script"] (spD (S0 K) 1 G_law_k31) := by
  have T := fx X G ck c
  obtain ⟨fd_law_source, F_law_source⟩ := c.def_ 0 (d := d_law_source) rfl
  obtain ⟨fd_law_mixed, F_law_mixed⟩ := c.def_ 1 (d := d_law_mixed) rfl
  obtain ⟨fd_law_next, F_law_next⟩ := c.def_ 2 (d := d_law_next) rfl
  obtain ⟨fd_law_number, F_law_number⟩ := c.def_ 3 (d := d_law_number) rfl
  obtain ⟨fd_is_whole, F_is_whole⟩ := c.def_ 4 (d := d_is_whole) rfl
  obtain ⟨fd_is_count, F_is_count⟩ := c.def_ 5 (d := d_is_count) rfl
  obtain ⟨fd_PutRows_checked, F_PutRows_checked⟩ := c.def_ 6 (d := d_PutRows_checked) rfl
  obtain ⟨fd_PutRows_init__, F_PutRows_init__⟩ := c.def_ 7 (d := d_PutRows_init__) rfl
  obtain ⟨fd_TakeRows_checked, F_TakeRows_checked⟩ := c.def_ 8 (d := d_TakeRows_checked) rfl
  obtain ⟨fd_TakeRows_init__, F_TakeRows_init__⟩ := c.def_ 9 (d := d_TakeRows_init__) rfl
  obtain ⟨fd_PutColumns_checked, F_PutColumns_checked⟩ := c.def_ 10 (d := d_PutColumns_checked) rfl
  obtain ⟨fd_PutColumns_init__, F_PutColumns_init__⟩ := c.def_ 11 (d := d_PutColumns_init__) rfl
  obtain ⟨fd_TakeColumns_checked, F_TakeColumns_checked⟩ := c.def_ 12 (d := d_TakeColumns_checked) rfl
  obtain ⟨fd_TakeColumns_init__, F_TakeColumns_init__⟩ := c.def_ 13 (d := d_TakeColumns_init__) rfl
  obtain ⟨fd_law_lines, F_law_lines⟩ := c.def_ 14 (d := d_law_lines) rfl
  obtain ⟨fd_TakeColumns_repr__, F_TakeColumns_repr__⟩ := c.def_ 15 (d := d_TakeColumns_repr__) rfl
  obtain ⟨fd_PutColumns_repr__, F_PutColumns_repr__⟩ := c.def_ 16 (d := d_PutColumns_repr__) rfl
  obtain ⟨fd_TakeRows_repr__, F_TakeRows_repr__⟩ := c.def_ 17 (d := d_TakeRows_repr__) rfl
  obtain ⟨fd_PutRows_repr__, F_PutRows_repr__⟩ := c.def_ 18 (d := d_PutRows_repr__) rfl
  obtain ⟨fd_law_kinds, F_law_kinds⟩ := c.def_ 19 (d := d_law_kinds) rfl
  obtain ⟨fd_TakeColumns_undoing, F_TakeColumns_undoing⟩ := c.def_ 20 (d := d_TakeColumns_undoing) rfl
  obtain ⟨fd_PutColumns_undoing, F_PutColumns_undoing⟩ := c.def_ 21 (d := d_PutColumns_undoing) rfl
  obtain ⟨fd_TakeRows_undoing, F_TakeRows_undoing⟩ := c.def_ 22 (d := d_TakeRows_undoing) rfl
  obtain ⟨fd_PutRows_undoing, F_PutRows_undoing⟩ := c.def_ 23 (d := d_PutRows_undoing) rfl
  obtain ⟨fd_PutRows_eq__, F_PutRows_eq__⟩ := c.def_ 24 (d := d_PutRows_eq__) rfl
  obtain ⟨fd_TakeRows_eq__, F_TakeRows_eq__⟩ := c.def_ 25 (d := d_TakeRows_eq__) rfl
  obtain ⟨fd_PutColumns_eq__, F_PutColumns_eq__⟩ := c.def_ 26 (d := d_PutColumns_eq__) rfl
  obtain ⟨fd_TakeColumns_eq__, F_TakeColumns_eq__⟩ := c.def_ 27 (d := d_TakeColumns_eq__) rfl
  obtain ⟨fd_law_alone, F_law_alone⟩ := c.def_ 28 (d := d_law_alone) rfl
  obtain ⟨fd_law_lines_right, F_law_lines_right⟩ := c.def_ 29 (d := d_law_lines_right) rfl
  obtain ⟨fd_Move_checked, F_Move_checked⟩ := c.def_ 30 (d := d_Move_checked) rfl
  obtain ⟨fd_Move_init__, F_Move_init__⟩ := c.def_ 31 (d := d_Move_init__) rfl
  obtain ⟨fd_is_end, F_is_end⟩ := c.def_ 32 (d := d_is_end) rfl
  obtain ⟨fd_Block_init__, F_Block_init__⟩ := c.def_ 33 (d := d_Block_init__) rfl
  obtain ⟨fd_Block_repr__, F_Block_repr__⟩ := c.def_ 34 (d := d_Block_repr__) rfl
  obtain ⟨fd_Move_repr__, F_Move_repr__⟩ := c.def_ 35 (d := d_Move_repr__) rfl
  obtain ⟨fd_Move_steps, F_Move_steps⟩ := c.def_ 36 (d := d_Move_steps) rfl
  obtain ⟨fd_moved_ends, F_moved_ends⟩ := c.def_ 37 (d := d_moved_ends) rfl
  obtain ⟨fd_moved_block, F_moved_block⟩ := c.def_ 38 (d := d_moved_block) rfl
  obtain ⟨fd_Move_target, F_Move_target⟩ := c.def_ 39 (d := d_Move_target) rfl
  obtain ⟨fd_Move_undoing, F_Move_undoing⟩ := c.def_ 40 (d := d_Move_undoing) rfl
  obtain ⟨fd_Block_eq__, F_Block_eq__⟩ := c.def_ 41 (d := d_Block_eq__) rfl
  obtain ⟨fd_Move_eq__, F_Move_eq__⟩ := c.def_ 42 (d := d_Move_eq__) rfl
  obtain ⟨fd_law_move_right, F_law_move_right⟩ := c.def_ 43 (d := d_law_move_right) rfl
  obtain ⟨fd_law_refused, F_law_refused⟩ := c.def_ 44 (d := d_law_refused) rfl
  obtain ⟨fd_law, F_law⟩ := c.def_ 45 (d := d_law) rfl
  have e := hfa.symm.trans (He.glo_ok X G (c.fact 138 (f := .glo "law") rfl))
  cases e
  refine ⟨fd_law, fun s v => FunD.bindsA (ps := ["_law_script"]) F_law (fun _ _ _ _ _ _ us hl => match us, hl with | [_], _ => rfl) s [v] rfl, fun base _ _ => ?_⟩
  have C_law_source_nw : CalN false P w K mg base (S0 K) 1 "_law_source" 1 G_law_source dfl_law_source := ⟨_, _, _, He.glo_ok X G (c.fact 123 (f := .glo "_law_source") rfl), F_law_source.kp, fun j hj => by
    have e : j = 0 := Nat.le_zero.mp hj
    subst e
    exact dfl_none (F_law_source.bindsN fun _ _ _ _ _ _ us hl => match us, hl with | [_], _ => rfl), ok_law_source T  F_law_source⟩
  have C_law_mixed_fn : CalD false P w K mg base (S0 K) 1 "_law_mixed" 2 G_law_mixed dfl_law_mixed := ⟨_, _, _, He.glo_ok X G (c.fact 124 (f := .glo "_law_mixed") rfl), F_law_mixed.kp, fun j hj => by
    have e : j = 0 := Nat.le_zero.mp hj
    subst e
    exact dfl_none (F_law_mixed.bindsN fun _ _ _ _ _ _ us hl => match us, hl with | [_, _], _ => rfl), ok_law_mixed T  F_law_mixed⟩
  have C_law_next_fn : CalD false P w K mg base (S0 K) 2 "_law_next" 2 G_law_next dfl_law_next := ⟨_, _, _, He.glo_ok X G (c.fact 125 (f := .glo "_law_next") rfl), F_law_next.kp, fun j hj => by
    have e : j = 0 := Nat.le_zero.mp hj
    subst e
    exact dfl_none (F_law_next.bindsN fun _ _ _ _ _ _ us hl => match us, hl with | [_, _], _ => rfl), ok_law_next T C_law_mixed_fn F_law_next⟩
  have C_law_number_fn : CalD false P w K mg base (S0 K) 3 "_law_number" 1 G_law_number_k31 dfl_law_number_k31 := ⟨_, _, _, He.glo_ok X G (c.fact 126 (f := .glo "_law_number") rfl), F_law_number.kp, fun j hj => by
    have e : j = 0 := Nat.le_zero.mp hj
    subst e
    exact dfl_none (F_law_number.bindsN fun _ _ _ _ _ _ us hl => match us, hl with | [_], _ => rfl), ok_law_number T C_law_next_fn F_law_number⟩
  have C_is_whole_fn : CalD false P w K mg base (S0 K) 1 "is_whole" 1 G_is_whole dfl_is_whole := ⟨_, _, _, He.glo_ok X G (c.fact 127 (f := .glo "is_whole") rfl), F_is_whole.kp, fun j hj => by
    have e : j = 0 := Nat.le_zero.mp hj
    subst e
    exact dfl_none (F_is_whole.bindsN fun _ _ _ _ _ _ us hl => match us, hl with | [_], _ => rfl), ok_is_whole T  F_is_whole⟩
  have C_is_count_fn : CalD false P w K mg base (S0 K) 2 "is_count" 1 G_is_count dfl_is_count := ⟨_, _, _, He.glo_ok X G (c.fact 128 (f := .glo "is_count") rfl), F_is_count.kp, fun j hj => by
    have e : j = 0 := Nat.le_zero.mp hj
    subst e
    exact dfl_none (F_is_count.bindsN fun _ _ _ _ _ _ us hl => match us, hl with | [_], _ => rfl), ok_is_count T C_is_whole_fn F_is_count⟩
  have C_PutRows_checked_mt : MetD false P w K mg base (S0 K) 3 "PutRows" "checked" 2 G_Change_checked dfl_Change_checked := ⟨_, _, _, mtF_of (He.cls_ok (c.fact 118 (f := .cls "PutRows") rfl)) (He.meth_ok (c.fact 139 (f := .meth "PutRows" "checked") rfl)), fun j hj => by
    have e : j = 0 := Nat.le_zero.mp hj
    subst e
    exact dfl_none (F_PutRows_checked.bindsN fun _ _ _ _ _ _ us hl => match us, hl with | [_, _], _ => rfl), ok_PutRows_checked T C_is_count_fn F_PutRows_checked⟩
  have C_PutRows_init___mk : MakD false P w K mg base (S0 K) 4 "PutRows" 3 G_PutRows_init__ dfl_PutRows_init__ := ⟨_, _, _, He.glo_ok X G (c.fact 9 (f := .glo "PutRows") rfl), mkF_of (show ("PutRows" : Str) ∈ (["Block", "Change", "Lines", "OfRows", "OfColumns", "PutRows", "TakeRows", "PutColumns", "TakeColumns", "Move"] : List Str) by decide) (He.mkr_ok (c.fact 140 (f := .mkr "PutRows") rfl)), fun j hj => by
    have hj : j ≤ 1 := hj
    match j, hj with
    | 0, _ =>
      obtain ⟨ds, h1, h2⟩ := F_PutRows_init__.binds1 (ps := ["self", "at", "many"]) 2 0 (by intro z; cases z) rfl (fun _ _ _ _ _ _ _ us its hl hl2 => match us, hl, its, hl2 with | [_, _], _, [_], _ => ⟨_, rfl, rfl⟩)
      exact dfl_of (dd := dfl_PutRows_init__) (by decide +kernel) h1 h2
    | 1, _ =>
      obtain ⟨ds, h1, h2⟩ := F_PutRows_init__.binds1 (ps := ["self", "at", "many"]) 3 1 (by intro z; cases z) rfl (fun _ _ _ _ _ _ _ us its hl hl2 => match us, hl, its, hl2 with | [_, _, _], _, [_], _ => ⟨_, rfl, rfl⟩)
      exact dfl_of (dd := dfl_PutRows_init__) (by decide +kernel) h1 h2
, ok_PutRows_init__ T C_PutRows_checked_mt F_PutRows_init__⟩
  have C_TakeRows_checked_mt : MetD false P w K mg base (S0 K) 3 "TakeRows" "checked" 2 G_Change_checked dfl_Change_checked := ⟨_, _, _, mtF_of (He.cls_ok (c.fact 119 (f := .cls "TakeRows") rfl)) (He.meth_ok (c.fact 141 (f := .meth "TakeRows" "checked") rfl)), fun j hj => by
    have e : j = 0 := Nat.le_zero.mp hj
    subst e
    exact dfl_none (F_TakeRows_checked.bindsN fun _ _ _ _ _ _ us hl => match us, hl with | [_, _], _ => rfl), ok_TakeRows_checked T C_is_count_fn F_TakeRows_checked⟩
  have C_TakeRows_init___mkK0_many_at : MakK false P w K mg base (S0 K) 4 "TakeRows" 3 G_TakeRows_init__ 0 ["many", "at"] [1, 0] dfl_TakeRows_init__ := ⟨_, _, _, He.glo_ok X G (c.fact 11 (f := .glo "TakeRows") rfl), mkF_of (show ("TakeRows" : Str) ∈ (["Block", "Change", "Lines", "OfRows", "OfColumns", "PutRows", "TakeRows", "PutColumns", "TakeColumns", "Move"] : List Str) by decide) (He.mkr_ok (c.fact 142 (f := .mkr "TakeRows") rfl)), kwm_of F_TakeRows_init__ (by intro z; cases z) (by decide +kernel) rfl (fun _ _ _ _ _ _ _ _ us its ws h1 h2 h3 => match us, h1, its, h2, ws, h3 with | [], _, [_], _, [_, _], _ => ⟨_, rfl, rfl⟩), ok_TakeRows_init__ T C_TakeRows_checked_mt F_TakeRows_init__⟩
  have C_TakeRows_init___mk : MakD false P w K mg base (S0 K) 4 "TakeRows" 3 G_TakeRows_init__ dfl_TakeRows_init__ := ⟨_, _, _, He.glo_ok X G (c.fact 11 (f := .glo "TakeRows") rfl), mkF_of (show ("TakeRows" : Str) ∈ (["Block", "Change", "Lines", "OfRows", "OfColumns", "PutRows", "TakeRows", "PutColumns", "TakeColumns", "Move"] : List Str) by decide) (He.mkr_ok (c.fact 142 (f := .mkr "TakeRows") rfl)), fun j hj => by
    have hj : j ≤ 1 := hj
    match j, hj with
    | 0, _ =>
      obtain ⟨ds, h1, h2⟩ := F_TakeRows_init__.binds1 (ps := ["self", "at", "many"]) 2 0 (by intro z; cases z) rfl (fun _ _ _ _ _ _ _ us its hl hl2 => match us, hl, its, hl2 with | [_, _], _, [_], _ => ⟨_, rfl, rfl⟩)
      exact dfl_of (dd := dfl_TakeRows_init__) (by decide +kernel) h1 h2
    | 1, _ =>
      obtain ⟨ds, h1, h2⟩ := F_TakeRows_init__.binds1 (ps := ["self", "at", "many"]) 3 1 (by intro z; cases z) rfl (fun _ _ _ _ _ _ _ us its hl hl2 => match us, hl, its, hl2 with | [_, _, _], _, [_], _ => ⟨_, rfl, rfl⟩)
      exact dfl_of (dd := dfl_TakeRows_init__) (by decide +kernel) h1 h2
, ok_TakeRows_init__ T C_TakeRows_checked_mt F_TakeRows_init__⟩
  have C_TakeRows_init___mkK0_at : MakK false P w K mg base (S0 K) 4 "TakeRows" 3 G_TakeRows_init__ 0 ["at"] [0, 1] dfl_TakeRows_init__ := ⟨_, _, _, He.glo_ok X G (c.fact 11 (f := .glo "TakeRows") rfl), mkF_of (show ("TakeRows" : Str) ∈ (["Block", "Change", "Lines", "OfRows", "OfColumns", "PutRows", "TakeRows", "PutColumns", "TakeColumns", "Move"] : List Str) by decide) (He.mkr_ok (c.fact 142 (f := .mkr "TakeRows") rfl)), kwm_of F_TakeRows_init__ (by intro z; cases z) (by decide +kernel) rfl (fun _ _ _ _ _ _ _ _ us its ws h1 h2 h3 => match us, h1, its, h2, ws, h3 with | [], _, [_], _, [_], _ => ⟨_, rfl, rfl⟩), ok_TakeRows_init__ T C_TakeRows_checked_mt F_TakeRows_init__⟩
  have C_PutColumns_checked_mt : MetD false P w K mg base (S0 K) 3 "PutColumns" "checked" 2 G_Change_checked dfl_Change_checked := ⟨_, _, _, mtF_of (He.cls_ok (c.fact 120 (f := .cls "PutColumns") rfl)) (He.meth_ok (c.fact 143 (f := .meth "PutColumns" "checked") rfl)), fun j hj => by
    have e : j = 0 := Nat.le_zero.mp hj
    subst e
    exact dfl_none (F_PutColumns_checked.bindsN fun _ _ _ _ _ _ us hl => match us, hl with | [_, _], _ => rfl), ok_PutColumns_checked T C_is_count_fn F_PutColumns_checked⟩
  have C_PutColumns_init___mkK1_many : MakK false P w K mg base (S0 K) 4 "PutColumns" 3 G_PutColumns_init__ 1 ["many"] [0, 1] dfl_PutColumns_init__ := ⟨_, _, _, He.glo_ok X G (c.fact 8 (f := .glo "PutColumns") rfl), mkF_of (show ("PutColumns" : Str) ∈ (["Block", "Change", "Lines", "OfRows", "OfColumns", "PutRows", "TakeRows", "PutColumns", "TakeColumns", "Move"] : List Str) by decide) (He.mkr_ok (c.fact 144 (f := .mkr "PutColumns") rfl)), kwm_of F_PutColumns_init__ (by intro z; cases z) (by decide +kernel) rfl (fun _ _ _ _ _ _ _ _ us its ws h1 h2 h3 => match us, h1, its, h2, ws, h3 with | [_], _, [_], _, [_], _ => ⟨_, rfl, rfl⟩), ok_PutColumns_init__ T C_PutColumns_checked_mt F_PutColumns_init__⟩
  have C_PutColumns_init___mk : MakD false P w K mg base (S0 K) 4 "PutColumns" 3 G_PutColumns_init__ dfl_PutColumns_init__ := ⟨_, _, _, He.glo_ok X G (c.fact 8 (f := .glo "PutColumns") rfl), mkF_of (show ("PutColumns" : Str) ∈ (["Block", "Change", "Lines", "OfRows", "OfColumns", "PutRows", "TakeRows", "PutColumns", "TakeColumns", "Move"] : List Str) by decide) (He.mkr_ok (c.fact 144 (f := .mkr "PutColumns") rfl)), fun j hj => by
    have hj : j ≤ 1 := hj
    match j, hj with
    | 0, _ =>
      obtain ⟨ds, h1, h2⟩ := F_PutColumns_init__.binds1 (ps := ["self", "at", "many"]) 2 0 (by intro z; cases z) rfl (fun _ _ _ _ _ _ _ us its hl hl2 => match us, hl, its, hl2 with | [_, _], _, [_], _ => ⟨_, rfl, rfl⟩)
      exact dfl_of (dd := dfl_PutColumns_init__) (by decide +kernel) h1 h2
    | 1, _ =>
      obtain ⟨ds, h1, h2⟩ := F_PutColumns_init__.binds1 (ps := ["self", "at", "many"]) 3 1 (by intro z; cases z) rfl (fun _ _ _ _ _ _ _ us its hl hl2 => match us, hl, its, hl2 with | [_, _, _], _, [_], _ => ⟨_, rfl, rfl⟩)
      exact dfl_of (dd := dfl_PutColumns_init__) (by decide +kernel) h1 h2
, ok_PutColumns_init__ T C_PutColumns_checked_mt F_PutColumns_init__⟩
  have C_TakeColumns_checked_mt : MetD false P w K mg base (S0 K) 3 "TakeColumns" "checked" 2 G_Change_checked dfl_Change_checked := ⟨_, _, _, mtF_of (He.cls_ok (c.fact 121 (f := .cls "TakeColumns") rfl)) (He.meth_ok (c.fact 145 (f := .meth "TakeColumns" "checked") rfl)), fun j hj => by
    have e : j = 0 := Nat.le_zero.mp hj
    subst e
    exact dfl_none (F_TakeColumns_checked.bindsN fun _ _ _ _ _ _ us hl => match us, hl with | [_, _], _ => rfl), ok_TakeColumns_checked T C_is_count_fn F_TakeColumns_checked⟩
  have C_TakeColumns_init___mk : MakD false P w K mg base (S0 K) 4 "TakeColumns" 3 G_TakeColumns_init__ dfl_TakeColumns_init__ := ⟨_, _, _, He.glo_ok X G (c.fact 10 (f := .glo "TakeColumns") rfl), mkF_of (show ("TakeColumns" : Str) ∈ (["Block", "Change", "Lines", "OfRows", "OfColumns", "PutRows", "TakeRows", "PutColumns", "TakeColumns", "Move"] : List Str) by decide) (He.mkr_ok (c.fact 146 (f := .mkr "TakeColumns") rfl)), fun j hj => by
    have hj : j ≤ 1 := hj
    match j, hj with
    | 0, _ =>
      obtain ⟨ds, h1, h2⟩ := F_TakeColumns_init__.binds1 (ps := ["self", "at", "many"]) 2 0 (by intro z; cases z) rfl (fun _ _ _ _ _ _ _ us its hl hl2 => match us, hl, its, hl2 with | [_, _], _, [_], _ => ⟨_, rfl, rfl⟩)
      exact dfl_of (dd := dfl_TakeColumns_init__) (by decide +kernel) h1 h2
    | 1, _ =>
      obtain ⟨ds, h1, h2⟩ := F_TakeColumns_init__.binds1 (ps := ["self", "at", "many"]) 3 1 (by intro z; cases z) rfl (fun _ _ _ _ _ _ _ us its hl hl2 => match us, hl, its, hl2 with | [_, _, _], _, [_], _ => ⟨_, rfl, rfl⟩)
      exact dfl_of (dd := dfl_TakeColumns_init__) (by decide +kernel) h1 h2
, ok_TakeColumns_init__ T C_TakeColumns_checked_mt F_TakeColumns_init__⟩
  have C_law_lines_fn : CalD false P w K mg base (S0 K) 6 "_law_lines" 3 G_law_lines dfl_law_lines := ⟨_, _, _, He.glo_ok X G (c.fact 129 (f := .glo "_law_lines") rfl), F_law_lines.kp, fun j hj => by
    have e : j = 0 := Nat.le_zero.mp hj
    subst e
    exact dfl_none (F_law_lines.bindsN fun _ _ _ _ _ _ us hl => match us, hl with | [_, _, _], _ => rfl), ok_law_lines T C_PutRows_init___mk C_TakeRows_init___mkK0_many_at C_PutColumns_init___mkK1_many C_TakeColumns_init___mk F_law_lines⟩
  have C_TakeColumns_repr___mt : MetD false P w K mg base (S0 K) 1 "TakeColumns" "__repr__" 1 G_TakeColumns_repr__ dfl_TakeColumns_repr__ := ⟨_, _, _, mtF_of (He.cls_ok (c.fact 121 (f := .cls "TakeColumns") rfl)) (He.meth_ok (c.fact 147 (f := .meth "TakeColumns" "__repr__") rfl)), fun j hj => by
    have e : j = 0 := Nat.le_zero.mp hj
    subst e
    exact dfl_none (F_TakeColumns_repr__.bindsN fun _ _ _ _ _ _ us hl => match us, hl with | [_], _ => rfl), ok_TakeColumns_repr__ T  F_TakeColumns_repr__⟩
  have C_PutColumns_repr___mt : MetD false P w K mg base (S0 K) 1 "PutColumns" "__repr__" 1 G_PutColumns_repr__ dfl_PutColumns_repr__ := ⟨_, _, _, mtF_of (He.cls_ok (c.fact 120 (f := .cls "PutColumns") rfl)) (He.meth_ok (c.fact 148 (f := .meth "PutColumns" "__repr__") rfl)), fun j hj => by
    have e : j = 0 := Nat.le_zero.mp hj
    subst e
    exact dfl_none (F_PutColumns_repr__.bindsN fun _ _ _ _ _ _ us hl => match us, hl with | [_], _ => rfl), ok_PutColumns_repr__ T  F_PutColumns_repr__⟩
  have C_TakeRows_repr___mt : MetD false P w K mg base (S0 K) 1 "TakeRows" "__repr__" 1 G_TakeRows_repr__ dfl_TakeRows_repr__ := ⟨_, _, _, mtF_of (He.cls_ok (c.fact 119 (f := .cls "TakeRows") rfl)) (He.meth_ok (c.fact 149 (f := .meth "TakeRows" "__repr__") rfl)), fun j hj => by
    have e : j = 0 := Nat.le_zero.mp hj
    subst e
    exact dfl_none (F_TakeRows_repr__.bindsN fun _ _ _ _ _ _ us hl => match us, hl with | [_], _ => rfl), ok_TakeRows_repr__ T  F_TakeRows_repr__⟩
  have C_PutRows_repr___mt : MetD false P w K mg base (S0 K) 1 "PutRows" "__repr__" 1 G_PutRows_repr__ dfl_PutRows_repr__ := ⟨_, _, _, mtF_of (He.cls_ok (c.fact 118 (f := .cls "PutRows") rfl)) (He.meth_ok (c.fact 150 (f := .meth "PutRows" "__repr__") rfl)), fun j hj => by
    have e : j = 0 := Nat.le_zero.mp hj
    subst e
    exact dfl_none (F_PutRows_repr__.bindsN fun _ _ _ _ _ _ us hl => match us, hl with | [_], _ => rfl), ok_PutRows_repr__ T  F_PutRows_repr__⟩
  have C_law_kinds_fn : CalD false P w K mg base (S0 K) 1 "_law_kinds" 1 G_law_kinds dfl_law_kinds := ⟨_, _, _, He.glo_ok X G (c.fact 130 (f := .glo "_law_kinds") rfl), F_law_kinds.kp, fun j hj => by
    have e : j = 0 := Nat.le_zero.mp hj
    subst e
    exact dfl_none (F_law_kinds.bindsN fun _ _ _ _ _ _ us hl => match us, hl with | [_], _ => rfl), ok_law_kinds T  F_law_kinds⟩
  have C_TakeColumns_undoing_mt : MetD false P w K mg base (S0 K) 6 "TakeColumns" "undoing" 1 G_TakeColumns_undoing dfl_TakeColumns_undoing := ⟨_, _, _, mtF_of (He.cls_ok (c.fact 121 (f := .cls "TakeColumns") rfl)) (He.meth_ok (c.fact 151 (f := .meth "TakeColumns" "undoing") rfl)), fun j hj => by
    have e : j = 0 := Nat.le_zero.mp hj
    subst e
    exact dfl_none (F_TakeColumns_undoing.bindsN fun _ _ _ _ _ _ us hl => match us, hl with | [_], _ => rfl), ok_TakeColumns_undoing T C_PutColumns_init___mk F_TakeColumns_undoing⟩
  have C_PutColumns_undoing_mt : MetD false P w K mg base (S0 K) 6 "PutColumns" "undoing" 1 G_PutColumns_undoing dfl_PutColumns_undoing := ⟨_, _, _, mtF_of (He.cls_ok (c.fact 120 (f := .cls "PutColumns") rfl)) (He.meth_ok (c.fact 152 (f := .meth "PutColumns" "undoing") rfl)), fun j hj => by
    have e : j = 0 := Nat.le_zero.mp hj
    subst e
    exact dfl_none (F_PutColumns_undoing.bindsN fun _ _ _ _ _ _ us hl => match us, hl with | [_], _ => rfl), ok_PutColumns_undoing T C_TakeColumns_init___mk F_PutColumns_undoing⟩
  have C_TakeRows_undoing_mt : MetD false P w K mg base (S0 K) 6 "TakeRows" "undoing" 1 G_TakeRows_undoing dfl_TakeRows_undoing := ⟨_, _, _, mtF_of (He.cls_ok (c.fact 119 (f := .cls "TakeRows") rfl)) (He.meth_ok (c.fact 153 (f := .meth "TakeRows" "undoing") rfl)), fun j hj => by
    have e : j = 0 := Nat.le_zero.mp hj
    subst e
    exact dfl_none (F_TakeRows_undoing.bindsN fun _ _ _ _ _ _ us hl => match us, hl with | [_], _ => rfl), ok_TakeRows_undoing T C_PutRows_init___mk F_TakeRows_undoing⟩
  have C_PutRows_undoing_mt : MetD false P w K mg base (S0 K) 6 "PutRows" "undoing" 1 G_PutRows_undoing dfl_PutRows_undoing := ⟨_, _, _, mtF_of (He.cls_ok (c.fact 118 (f := .cls "PutRows") rfl)) (He.meth_ok (c.fact 154 (f := .meth "PutRows" "undoing") rfl)), fun j hj => by
    have e : j = 0 := Nat.le_zero.mp hj
    subst e
    exact dfl_none (F_PutRows_undoing.bindsN fun _ _ _ _ _ _ us hl => match us, hl with | [_], _ => rfl), ok_PutRows_undoing T C_TakeRows_init___mk F_PutRows_undoing⟩
  have C_PutRows_eq___mt : MetD false P w K mg base (S0 K) 1 "PutRows" "__eq__" 2 G_PutRows_eq__ dfl_PutRows_eq__ := ⟨_, _, _, mtF_of (He.cls_ok (c.fact 118 (f := .cls "PutRows") rfl)) (He.meth_ok (c.fact 155 (f := .meth "PutRows" "__eq__") rfl)), fun j hj => by
    have e : j = 0 := Nat.le_zero.mp hj
    subst e
    exact dfl_none (F_PutRows_eq__.bindsN fun _ _ _ _ _ _ us hl => match us, hl with | [_, _], _ => rfl), ok_PutRows_eq__ T  F_PutRows_eq__⟩
  have C_TakeRows_eq___mt : MetD false P w K mg base (S0 K) 1 "TakeRows" "__eq__" 2 G_TakeRows_eq__ dfl_TakeRows_eq__ := ⟨_, _, _, mtF_of (He.cls_ok (c.fact 119 (f := .cls "TakeRows") rfl)) (He.meth_ok (c.fact 156 (f := .meth "TakeRows" "__eq__") rfl)), fun j hj => by
    have e : j = 0 := Nat.le_zero.mp hj
    subst e
    exact dfl_none (F_TakeRows_eq__.bindsN fun _ _ _ _ _ _ us hl => match us, hl with | [_, _], _ => rfl), ok_TakeRows_eq__ T  F_TakeRows_eq__⟩
  have C_PutColumns_eq___mt : MetD false P w K mg base (S0 K) 1 "PutColumns" "__eq__" 2 G_PutColumns_eq__ dfl_PutColumns_eq__ := ⟨_, _, _, mtF_of (He.cls_ok (c.fact 120 (f := .cls "PutColumns") rfl)) (He.meth_ok (c.fact 157 (f := .meth "PutColumns" "__eq__") rfl)), fun j hj => by
    have e : j = 0 := Nat.le_zero.mp hj
    subst e
    exact dfl_none (F_PutColumns_eq__.bindsN fun _ _ _ _ _ _ us hl => match us, hl with | [_, _], _ => rfl), ok_PutColumns_eq__ T  F_PutColumns_eq__⟩
  have C_TakeColumns_eq___mt : MetD false P w K mg base (S0 K) 1 "TakeColumns" "__eq__" 2 G_TakeColumns_eq__ dfl_TakeColumns_eq__ := ⟨_, _, _, mtF_of (He.cls_ok (c.fact 121 (f := .cls "TakeColumns") rfl)) (He.meth_ok (c.fact 158 (f := .meth "TakeColumns" "__eq__") rfl)), fun j hj => by
    have e : j = 0 := Nat.le_zero.mp hj
    subst e
    exact dfl_none (F_TakeColumns_eq__.bindsN fun _ _ _ _ _ _ us hl => match us, hl with | [_, _], _ => rfl), ok_TakeColumns_eq__ T  F_TakeColumns_eq__⟩
  have C_law_alone_fn : CalD false P w K mg base (S0 K) 6 "_law_alone" 2 G_law_alone dfl_law_alone := ⟨_, _, _, He.glo_ok X G (c.fact 131 (f := .glo "_law_alone") rfl), F_law_alone.kp, fun j hj => by
    have e : j = 0 := Nat.le_zero.mp hj
    subst e
    exact dfl_none (F_law_alone.bindsN fun _ _ _ _ _ _ us hl => match us, hl with | [_, _], _ => rfl), ok_law_alone T C_PutRows_init___mk C_TakeRows_init___mkK0_at C_PutColumns_init___mk C_TakeColumns_init___mk F_law_alone⟩
  have C_law_lines_right_fn : CalD false P w K mg base (S0 K) 7 "_law_lines_right" 3 G_law_lines_right dfl_law_lines_right := ⟨_, _, _, He.glo_ok X G (c.fact 132 (f := .glo "_law_lines_right") rfl), F_law_lines_right.kp, fun j hj => by
    have e : j = 0 := Nat.le_zero.mp hj
    subst e
    exact dfl_none (F_law_lines_right.bindsN fun _ _ _ _ _ _ us hl => match us, hl with | [_, _, _], _ => rfl), ok_law_lines_right T C_law_lines_fn C_TakeColumns_repr___mt C_PutColumns_repr___mt C_TakeRows_repr___mt C_PutRows_repr___mt C_law_kinds_fn C_TakeColumns_undoing_mt C_PutColumns_undoing_mt C_TakeRows_undoing_mt C_PutRows_undoing_mt C_PutRows_eq___mt C_TakeRows_eq___mt C_PutColumns_eq___mt C_TakeColumns_eq___mt C_law_alone_fn F_law_lines_right⟩
  have C_Move_checked_mt : MetD false P w K mg base (S0 K) 3 "Move" "checked" 2 G_Change_checked dfl_Change_checked := ⟨_, _, _, mtF_of (He.cls_ok (c.fact 122 (f := .cls "Move") rfl)) (He.meth_ok (c.fact 159 (f := .meth "Move" "checked") rfl)), fun j hj => by
    have e : j = 0 := Nat.le_zero.mp hj
    subst e
    exact dfl_none (F_Move_checked.bindsN fun _ _ _ _ _ _ us hl => match us, hl with | [_, _], _ => rfl), ok_Move_checked T C_is_count_fn F_Move_checked⟩
  have C_Move_init___mk : MakD false P w K mg base (S0 K) 4 "Move" 4 G_Move_init__ dfl_Move_init__ := ⟨_, _, _, He.glo_ok X G (c.fact 3 (f := .glo "Move") rfl), mkF_of (show ("Move" : Str) ∈ (["Block", "Change", "Lines", "OfRows", "OfColumns", "PutRows", "TakeRows", "PutColumns", "TakeColumns", "Move"] : List Str) by decide) (He.mkr_ok (c.fact 160 (f := .mkr "Move") rfl)), fun j hj => by
    have e : j = 0 := Nat.le_zero.mp hj
    subst e
    exact dfl_none (F_Move_init__.bindsN fun _ _ _ _ _ _ us hl => match us, hl with | [_, _, _, _], _ => rfl), ok_Move_init__ T C_Move_checked_mt F_Move_init__⟩
  have C_Move_init___mkK0_column_row_block : MakK false P w K mg base (S0 K) 4 "Move" 4 G_Move_init__ 0 ["column", "row", "block"] [2, 1, 0] [] := ⟨_, _, _, He.glo_ok X G (c.fact 3 (f := .glo "Move") rfl), mkF_of (show ("Move" : Str) ∈ (["Block", "Change", "Lines", "OfRows", "OfColumns", "PutRows", "TakeRows", "PutColumns", "TakeColumns", "Move"] : List Str) by decide) (He.mkr_ok (c.fact 160 (f := .mkr "Move") rfl)), kwm_none F_Move_init__ (fun _ _ _ _ _ _ _ us ws h1 h3 => match us, h1, ws, h3 with | [], _, [_, _, _], _ => rfl), ok_Move_init__ T C_Move_checked_mt F_Move_init__⟩
  have C_is_end_fn : CalD false P w K mg base (S0 K) 3 "is_end" 2 G_is_end dfl_is_end := ⟨_, _, _, He.glo_ok X G (c.fact 133 (f := .glo "is_end") rfl), F_is_end.kp, fun j hj => by
    have e : j = 0 := Nat.le_zero.mp hj
    subst e
    exact dfl_none (F_is_end.bindsN fun _ _ _ _ _ _ us hl => match us, hl with | [_, _], _ => rfl), ok_is_end T C_is_count_fn F_is_end⟩
  have C_Block_init___mk : MakD false P w K mg base (S0 K) 4 "Block" 5 G_Block_init__ dfl_Block_init__ := ⟨_, _, _, He.glo_ok X G (c.fact 0 (f := .glo "Block") rfl), mkF_of (show ("Block" : Str) ∈ (["Block", "Change", "Lines", "OfRows", "OfColumns", "PutRows", "TakeRows", "PutColumns", "TakeColumns", "Move"] : List Str) by decide) (He.mkr_ok (c.fact 161 (f := .mkr "Block") rfl)), fun j hj => by
    have hj : j ≤ 4 := hj
    match j, hj with
    | 0, _ =>
      obtain ⟨ds, h1, h2⟩ := F_Block_init__.binds1 (ps := ["self", "top", "left", "bottom", "right"]) 1 0 (by intro z; cases z) rfl (fun _ _ _ _ _ _ _ us its hl hl2 => match us, hl, its, hl2 with | [_], _, [_, _, _, _], _ => ⟨_, rfl, rfl⟩)
      exact dfl_of (dd := dfl_Block_init__) (by decide +kernel) h1 h2
    | 1, _ =>
      obtain ⟨ds, h1, h2⟩ := F_Block_init__.binds1 (ps := ["self", "top", "left", "bottom", "right"]) 2 1 (by intro z; cases z) rfl (fun _ _ _ _ _ _ _ us its hl hl2 => match us, hl, its, hl2 with | [_, _], _, [_, _, _, _], _ => ⟨_, rfl, rfl⟩)
      exact dfl_of (dd := dfl_Block_init__) (by decide +kernel) h1 h2
    | 2, _ =>
      obtain ⟨ds, h1, h2⟩ := F_Block_init__.binds1 (ps := ["self", "top", "left", "bottom", "right"]) 3 2 (by intro z; cases z) rfl (fun _ _ _ _ _ _ _ us its hl hl2 => match us, hl, its, hl2 with | [_, _, _], _, [_, _, _, _], _ => ⟨_, rfl, rfl⟩)
      exact dfl_of (dd := dfl_Block_init__) (by decide +kernel) h1 h2
    | 3, _ =>
      obtain ⟨ds, h1, h2⟩ := F_Block_init__.binds1 (ps := ["self", "top", "left", "bottom", "right"]) 4 3 (by intro z; cases z) rfl (fun _ _ _ _ _ _ _ us its hl hl2 => match us, hl, its, hl2 with | [_, _, _, _], _, [_, _, _, _], _ => ⟨_, rfl, rfl⟩)
      exact dfl_of (dd := dfl_Block_init__) (by decide +kernel) h1 h2
    | 4, _ =>
      obtain ⟨ds, h1, h2⟩ := F_Block_init__.binds1 (ps := ["self", "top", "left", "bottom", "right"]) 5 4 (by intro z; cases z) rfl (fun _ _ _ _ _ _ _ us its hl hl2 => match us, hl, its, hl2 with | [_, _, _, _, _], _, [_, _, _, _], _ => ⟨_, rfl, rfl⟩)
      exact dfl_of (dd := dfl_Block_init__) (by decide +kernel) h1 h2
, ok_Block_init__ T C_is_count_fn C_is_end_fn F_Block_init__⟩
  have C_Block_repr___mt : MetD false P w K mg base (S0 K) 1 "Block" "__repr__" 1 G_Block_repr__ dfl_Block_repr__ := ⟨_, _, _, mtF_of (He.cls_ok (c.fact 113 (f := .cls "Block") rfl)) (He.meth_ok (c.fact 162 (f := .meth "Block" "__repr__") rfl)), fun j hj => by
    have e : j = 0 := Nat.le_zero.mp hj
    subst e
    exact dfl_none (F_Block_repr__.bindsN fun _ _ _ _ _ _ us hl => match us, hl with | [_], _ => rfl), ok_Block_repr__ T  F_Block_repr__⟩
  have C_Move_repr___mt : MetD false P w K mg base (S0 K) 4 "Move" "__repr__" 1 G_Move_repr__ dfl_Move_repr__ := ⟨_, _, _, mtF_of (He.cls_ok (c.fact 122 (f := .cls "Move") rfl)) (He.meth_ok (c.fact 163 (f := .meth "Move" "__repr__") rfl)), fun j hj => by
    have e : j = 0 := Nat.le_zero.mp hj
    subst e
    exact dfl_none (F_Move_repr__.bindsN fun _ _ _ _ _ _ us hl => match us, hl with | [_], _ => rfl), ok_Move_repr__ T C_Block_repr___mt F_Move_repr__⟩
  have C_Move_steps_mt : MetD false P w K mg base (S0 K) 1 "Move" "steps" 1 G_Move_steps dfl_Move_steps := ⟨_, _, _, mtF_of (He.cls_ok (c.fact 122 (f := .cls "Move") rfl)) (He.meth_ok (c.fact 164 (f := .meth "Move" "steps") rfl)), fun j hj => by
    have e : j = 0 := Nat.le_zero.mp hj
    subst e
    exact dfl_none (F_Move_steps.bindsN fun _ _ _ _ _ _ us hl => match us, hl with | [_], _ => rfl), ok_Move_steps T  F_Move_steps⟩
  have C_moved_ends_fn : CalD false P w K mg base (S0 K) 1 "moved_ends" 3 G_moved_ends dfl_moved_ends := ⟨_, _, _, He.glo_ok X G (c.fact 134 (f := .glo "moved_ends") rfl), F_moved_ends.kp, fun j hj => by
    have e : j = 0 := Nat.le_zero.mp hj
    subst e
    exact dfl_none (F_moved_ends.bindsN fun _ _ _ _ _ _ us hl => match us, hl with | [_, _, _], _ => rfl), ok_moved_ends T  F_moved_ends⟩
  have C_moved_block_fn : CalD false P w K mg base (S0 K) 6 "moved_block" 3 G_moved_block dfl_moved_block := ⟨_, _, _, He.glo_ok X G (c.fact 135 (f := .glo "moved_block") rfl), F_moved_block.kp, fun j hj => by
    have e : j = 0 := Nat.le_zero.mp hj
    subst e
    exact dfl_none (F_moved_block.bindsN fun _ _ _ _ _ _ us hl => match us, hl with | [_, _, _], _ => rfl), ok_moved_block T C_moved_ends_fn C_Block_init___mk F_moved_block⟩
  have C_Move_target_mt : MetD false P w K mg base (S0 K) 7 "Move" "target" 1 G_Move_target dfl_Move_target := ⟨_, _, _, mtF_of (He.cls_ok (c.fact 122 (f := .cls "Move") rfl)) (He.meth_ok (c.fact 165 (f := .meth "Move" "target") rfl)), fun j hj => by
    have e : j = 0 := Nat.le_zero.mp hj
    subst e
    exact dfl_none (F_Move_target.bindsN fun _ _ _ _ _ _ us hl => match us, hl with | [_], _ => rfl), ok_Move_target T C_Move_steps_mt C_moved_block_fn F_Move_target⟩
  have C_Move_undoing_mt : MetD false P w K mg base (S0 K) 8 "Move" "undoing" 1 G_Move_undoing dfl_Move_undoing := ⟨_, _, _, mtF_of (He.cls_ok (c.fact 122 (f := .cls "Move") rfl)) (He.meth_ok (c.fact 166 (f := .meth "Move" "undoing") rfl)), fun j hj => by
    have e : j = 0 := Nat.le_zero.mp hj
    subst e
    exact dfl_none (F_Move_undoing.bindsN fun _ _ _ _ _ _ us hl => match us, hl with | [_], _ => rfl), ok_Move_undoing T C_Move_init___mk C_Move_target_mt F_Move_undoing⟩
  have C_Block_eq___mt : MetD false P w K mg base (S0 K) 1 "Block" "__eq__" 2 G_Block_eq__ dfl_Block_eq__ := ⟨_, _, _, mtF_of (He.cls_ok (c.fact 113 (f := .cls "Block") rfl)) (He.meth_ok (c.fact 167 (f := .meth "Block" "__eq__") rfl)), fun j hj => by
    have e : j = 0 := Nat.le_zero.mp hj
    subst e
    exact dfl_none (F_Block_eq__.bindsN fun _ _ _ _ _ _ us hl => match us, hl with | [_, _], _ => rfl), ok_Block_eq__ T  F_Block_eq__⟩
  have C_Move_eq___mt : MetD false P w K mg base (S0 K) 3 "Move" "__eq__" 2 G_Move_eq__ dfl_Move_eq__ := ⟨_, _, _, mtF_of (He.cls_ok (c.fact 122 (f := .cls "Move") rfl)) (He.meth_ok (c.fact 168 (f := .meth "Move" "__eq__") rfl)), fun j hj => by
    have e : j = 0 := Nat.le_zero.mp hj
    subst e
    exact dfl_none (F_Move_eq__.bindsN fun _ _ _ _ _ _ us hl => match us, hl with | [_, _], _ => rfl), ok_Move_eq__ T C_Block_eq___mt F_Move_eq__⟩
  have C_law_move_right_fn : CalD false P w K mg base (S0 K) 9 "_law_move_right" 3 G_law_move_right dfl_law_move_right := ⟨_, _, _, He.glo_ok X G (c.fact 136 (f := .glo "_law_move_right") rfl), F_law_move_right.kp, fun j hj => by
    have e : j = 0 := Nat.le_zero.mp hj
    subst e
    exact dfl_none (F_law_move_right.bindsN fun _ _ _ _ _ _ us hl => match us, hl with | [_, _, _], _ => rfl), ok_law_move_right T C_Move_init___mk C_Block_init___mk C_Move_repr___mt C_law_kinds_fn C_Move_undoing_mt C_Move_init___mkK0_column_row_block C_Move_eq___mt F_law_move_right⟩
  have C_law_refused_fn : CalD false P w K mg base (S0 K) 7 "_law_refused" 4 G_law_refused_k31 dfl_law_refused_k31 := ⟨_, _, _, He.glo_ok X G (c.fact 137 (f := .glo "_law_refused") rfl), F_law_refused.kp, fun j hj => by
    have e : j = 0 := Nat.le_zero.mp hj
    subst e
    exact dfl_none (F_law_refused.bindsN fun _ _ _ _ _ _ us hl => match us, hl with | [_, _, _, _], _ => rfl), ok_law_refused T C_law_lines_fn C_Move_init___mk F_law_refused⟩
  exact fnOk_any (md := false) (ok_law T C_law_source_nw C_law_number_fn C_law_next_fn C_law_lines_right_fn C_law_move_right_fn C_law_refused_fn C_Block_init___mk C_PutRows_repr___mt C_PutRows_init___mk C_PutRows_eq___mt F_law)
end
end K31
open PySem PySem.W PySem.Calls PyProof.Rows
theorem K31.end_ (main : ∀ ns : List Int, ns.length ≤ 63 → ∃ μ, PG.G_law_k31 [.scr ns] [] = .ok (.bl true) μ) : PySem.Challenge.rw_cellblocks_k31_changes_made.Holds := by
  w_on; o_law
  refine HandSHeadRun.head_any (r := OpenLaw.row PySem.Challenge.rw_cellblocks_k31_changes_made) (q := view (OpenLaw.row PySem.Challenge.rw_cellblocks_k31_changes_made).prog [55]) (H := K31.hk) (ob := K31.ob) (M := 16000) (loose := K31.nms) (d := HandSHeadRun.topDef (OpenLaw.row PySem.Challenge.rw_cellblocks_k31_changes_made).prog 55) (kwd := []) K31.ob_eq
    (by kernel_rfl) (fun s => by kernel_rfl) K31.run (by kernel_rfl) (by kernel_rfl) (by kernel_rfl) (by rfl) (by first | assumption | decide +kernel) (by decide +kernel) ⟨rfl, rfl, rfl, rfl, rfl, by decide +kernel⟩ ?hw ?hc
  case hw => w_witness2
  case hc =>
    refine L2.walk_ofE (l := PySem.Challenge.rw_cellblocks_k31_changes_made) (n := 63) (k := 10) (x := "_law_script") (CX := DL.CXA (PySem.Challenge.rw_cellblocks_k31_changes_made).prog) rfl (by decide) (by kernel_rfl) ⟨rfl, by decide, by decide⟩ ?F (fun _ _ _ _ z => DL.cxA_false z)
    intro w mg fa h Y G hmg0
    obtain ⟨K, KX, c⟩ := Y
    have hmg : mg ("law" : PySem.Str) = some (.ref fa) := by
      have e : (HandSHeadRun.topDef (OpenLaw.row PySem.Challenge.rw_cellblocks_k31_changes_made).prog 55).name = ("law" : PySem.Str) := by kernel_rfl
      rw [← e]
      exact hmg0
    obtain ⟨c1, c2⟩ := DL.saysX c
    obtain ⟨fd, hb, hF⟩ := K31.facts (P := (PySem.Challenge.rw_cellblocks_k31_changes_made).prog) (w := w) KX G hmg c1 c2
    exact ⟨K, fd, _, KX, hb, fun H a ns hl _ hS => DL.law_sp (main ns hl) hS, hF⟩
theorem PySem.Challenge.cw_cellblocks_k31_changes_made_holds : PySem.Challenge.rw_cellblocks_k31_changes_made.Holds := by
  exact K31.end_ fun ns h => PG.law_main31 h
