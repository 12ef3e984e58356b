import PyProof.Rows.All
import Wide.All
import OpenK.AllK
import Wide.FinOn
import HandS.ForMost
import HandS.Codes
import HandS.IsInst
import HandS.Walk
import PySem.Challenge.RW_inkloom_k16_lines_and_places
set_option Elab.async false
set_option linter.all false
set_option maxRecDepth 100000
set_option maxHeartbeats 4000000
section
/-! Plain mathematics: pieces, trees of pieces, lines, changes. No program in sight. -/
namespace Ink

/-! ### pieces of a stock -/
structure Pc where
  b : Nat
  s : Nat
  e : Nat
def ptx (S : List Nat) (p : Pc) : List Nat := (S.drop p.b).take p.s
def ltx (S : List Nat) : List Pc → List Nat
  | [] => []
  | p :: r => ptx S p ++ ltx S r
theorem ltx_app (S : List Nat) : ∀ a b : List Pc, ltx S (a ++ b) = ltx S a ++ ltx S b
  | [], b => rfl
  | p :: r, b => by
    show ptx S p ++ ltx S (r ++ b) = (ptx S p ++ ltx S r) ++ ltx S b
    rw [ltx_app S r b, List.append_assoc]
theorem ltx_one (S : List Nat) (p : Pc) : ltx S [p] = ptx S p := List.append_nil _
structure PcOk (S : List Nat) (p : Pc) : Prop where
  pos : 1 ≤ p.s
  fit : p.b + p.s ≤ S.length
  en : p.e = (ptx S p).count 10
theorem ptx_len {S : List Nat} {p : Pc} (h : PcOk S p) : (ptx S p).length = p.s := by
  have := h.fit
  unfold ptx
  rw [List.length_take, List.length_drop]
  omega
def LOk (S : List Nat) (ps : List Pc) : Prop := ∀ p ∈ ps, PcOk S p
theorem lok_nil {S : List Nat} : LOk S [] := fun _ h => nomatch h
theorem lok_cons {S : List Nat} {p : Pc} {r : List Pc} (h : PcOk S p) (hr : LOk S r) : LOk S (p :: r) := fun q hq => by
  rcases List.mem_cons.mp hq with e | e
  · rw [e]
    exact h
  · exact hr q e
theorem lok_hd {S : List Nat} {p : Pc} {r : List Pc} (h : LOk S (p :: r)) : PcOk S p := h p (List.mem_cons_self ..)
theorem lok_tl {S : List Nat} {p : Pc} {r : List Pc} (h : LOk S (p :: r)) : LOk S r := fun q hq => h q (List.mem_cons_of_mem _ hq)
theorem lok_app {S : List Nat} {a b : List Pc} (ha : LOk S a) (hb : LOk S b) : LOk S (a ++ b) := fun q hq => by
  rcases List.mem_append.mp hq with e | e
  · exact ha q e
  · exact hb q e
theorem lok_l {S : List Nat} {a b : List Pc} (h : LOk S (a ++ b)) : LOk S a := fun q hq => h q (List.mem_append_left _ hq)
theorem lok_r {S : List Nat} {a b : List Pc} (h : LOk S (a ++ b)) : LOk S b := fun q hq => h q (List.mem_append_right _ hq)
theorem ptx_grow {S x : List Nat} {p : Pc} (h : PcOk S p) : ptx (S ++ x) p = ptx S p := by
  have := h.fit
  have := h.pos
  unfold ptx
  rw [List.drop_append_of_le_length (by omega), List.take_append_of_le_length (by rw [List.length_drop]; omega)]
theorem pcok_grow {S x : List Nat} {p : Pc} (h : PcOk S p) : PcOk (S ++ x) p :=
  ⟨h.pos, by rw [List.length_append]; have := h.fit; omega, by rw [ptx_grow h]; exact h.en⟩
theorem lok_grow {S x : List Nat} {ps : List Pc} (h : LOk S ps) : LOk (S ++ x) ps := fun p hp => pcok_grow (h p hp)
theorem ltx_grow {S x : List Nat} : ∀ {ps : List Pc}, LOk S ps → ltx (S ++ x) ps = ltx S ps
  | [], _ => rfl
  | p :: r, h => by
    show ptx (S ++ x) p ++ ltx (S ++ x) r = ptx S p ++ ltx S r
    rw [ptx_grow (lok_hd h), ltx_grow (lok_tl h)]

/-- a piece laid at the stock's end -/
theorem pcok_new (S x : List Nat) (h : x ≠ []) : PcOk (S ++ x) ⟨S.length, x.length, x.count 10⟩ ∧ ptx (S ++ x) ⟨S.length, x.length, x.count 10⟩ = x := by
  have e : ptx (S ++ x) ⟨S.length, x.length, x.count 10⟩ = x := by
    show ((S ++ x).drop S.length).take x.length = x
    rw [List.drop_left, List.take_length]
  have hp : 0 < x.length := List.length_pos_iff.mpr h
  refine ⟨⟨hp, ?_, ?_⟩, e⟩
  · show S.length + x.length ≤ (S ++ x).length
    rw [List.length_append]
    exact Nat.le_refl _
  · rw [e]

/-- a piece cut in two -/
def cutA (S : List Nat) (p : Pc) (a : Nat) : Pc := ⟨p.b, a, ((S.drop p.b).take a).count 10⟩
def cutB (S : List Nat) (p : Pc) (a : Nat) : Pc := ⟨p.b + a, p.s - a, p.e - ((S.drop p.b).take a).count 10⟩
theorem take_ptx {S : List Nat} {p : Pc} {a : Nat} (h : a ≤ p.s) : (S.drop p.b).take a = (ptx S p).take a := by
  unfold ptx
  rw [List.take_take, Nat.min_eq_left h]
theorem drop_ptx {S : List Nat} {p : Pc} {a : Nat} : (S.drop (p.b + a)).take (p.s - a) = (ptx S p).drop a := by
  unfold ptx
  rw [List.drop_take, List.drop_drop]
theorem cut_le {S : List Nat} {p : Pc} {a : Nat} (h : PcOk S p) (h2 : a ≤ p.s) : ((S.drop p.b).take a).count 10 ≤ p.e := by
  rw [take_ptx h2, h.en]
  exact List.Sublist.count_le _ (List.take_sublist _ _)
theorem cutA_ok {S : List Nat} {p : Pc} {a : Nat} (h : PcOk S p) (h1 : 0 < a) (h2 : a < p.s) : PcOk S (cutA S p a) ∧ ptx S (cutA S p a) = (ptx S p).take a := by
  have e : ptx S (cutA S p a) = (ptx S p).take a := take_ptx (Nat.le_of_lt h2)
  refine ⟨⟨h1, ?_, ?_⟩, e⟩
  · show p.b + a ≤ S.length
    have := h.fit
    omega
  · rfl
theorem cutB_ok {S : List Nat} {p : Pc} {a : Nat} (h : PcOk S p) (h1 : 0 < a) (h2 : a < p.s) : PcOk S (cutB S p a) ∧ ptx S (cutB S p a) = (ptx S p).drop a := by
  have e : ptx S (cutB S p a) = (ptx S p).drop a := drop_ptx
  refine ⟨⟨?_, ?_, ?_⟩, e⟩
  · show 1 ≤ p.s - a
    omega
  · show p.b + a + (p.s - a) ≤ S.length
    have := h.fit
    omega
  · rw [e]
    show p.e - ((S.drop p.b).take a).count 10 = _
    rw [take_ptx (Nat.le_of_lt h2), h.en]
    have q : ((ptx S p).take a ++ (ptx S p).drop a).count 10 = (ptx S p).count 10 := by rw [List.take_append_drop]
    rw [List.count_append] at q
    omega
/-- two pieces that stand one right behind the other -/
def glue (p q : Pc) : Pc := ⟨p.b, p.s + q.s, p.e + q.e⟩
theorem glue_ok {S : List Nat} {p q : Pc} (hp : PcOk S p) (hq : PcOk S q) (h : p.b + p.s = q.b) : PcOk S (glue p q) ∧ ptx S (glue p q) = ptx S p ++ ptx S q := by
  have e : ptx S (glue p q) = ptx S p ++ ptx S q := by
    show (S.drop p.b).take (p.s + q.s) = (S.drop p.b).take p.s ++ (S.drop q.b).take q.s
    rw [List.take_add, List.drop_drop, h]
  refine ⟨⟨?_, ?_, ?_⟩, e⟩
  · show 1 ≤ p.s + q.s
    have := hp.pos
    omega
  · show p.b + (p.s + q.s) ≤ S.length
    have := hq.fit
    omega
  · rw [e, List.count_append, ← hp.en, ← hq.en]
    rfl

/-! ### trees -/
inductive Tr where
  | nil : Tr
  | node (l : Tr) (p : Pc) (r : Tr) : Tr
def Tr.toL : Tr → List Pc
  | .nil => []
  | .node l p r => l.toL ++ p :: r.toL
def Tr.ht : Tr → Nat
  | .nil => 0
  | .node l _ r => 1 + (if r.ht > l.ht then r.ht else l.ht)
def Tr.sz : Tr → Nat
  | .nil => 0
  | .node l p r => l.sz + p.s + r.sz
def Tr.en : Tr → Nat
  | .nil => 0
  | .node l p r => l.en + p.e + r.en
def Tr.cnt (t : Tr) : Nat := t.toL.length
theorem cnt_nil : Tr.cnt .nil = 0 := rfl
theorem cnt_node (l : Tr) (p : Pc) (r : Tr) : (Tr.node l p r).cnt = l.cnt + r.cnt + 1 := by
  show (l.toL ++ p :: r.toL).length = l.toL.length + r.toL.length + 1
  rw [List.length_append, List.length_cons]
  omega
theorem ht_pos {t : Tr} (h : 0 < t.ht) : ∃ l p r, t = .node l p r := by
  cases t with
  | nil => exact absurd h (Nat.lt_irrefl 0)
  | node l p r => exact ⟨l, p, r, rfl⟩
theorem ltx_node (S : List Nat) (l : Tr) (p : Pc) (r : Tr) : ltx S (Tr.node l p r).toL = ltx S l.toL ++ (ptx S p ++ ltx S r.toL) := by
  show ltx S (l.toL ++ p :: r.toL) = _
  rw [ltx_app]
  rfl
theorem lok_node {S : List Nat} {l : Tr} {p : Pc} {r : Tr} (h : LOk S (Tr.node l p r).toL) : LOk S l.toL ∧ PcOk S p ∧ LOk S r.toL :=
  ⟨lok_l h, lok_hd (lok_r h), lok_tl (lok_r h)⟩
theorem sz_len {S : List Nat} : ∀ {t : Tr}, LOk S t.toL → (ltx S t.toL).length = t.sz
  | .nil, _ => rfl
  | .node l p r, h => by
    obtain ⟨h1, h2, h3⟩ := lok_node h
    rw [ltx_node, List.length_append, List.length_append, sz_len h1, sz_len h3, ptx_len h2]
    show _ = l.sz + p.s + r.sz
    omega
theorem en_cnt {S : List Nat} : ∀ {t : Tr}, LOk S t.toL → (ltx S t.toL).count 10 = t.en
  | .nil, _ => rfl
  | .node l p r, h => by
    obtain ⟨h1, h2, h3⟩ := lok_node h
    rw [ltx_node, List.count_append, List.count_append, en_cnt h1, en_cnt h3, ← h2.en]
    show _ = l.en + p.e + r.en
    omega

/-! ### a text parted at a place -/
theorem take_l {A B : List Nat} {n : Nat} (h : n ≤ A.length) : (A ++ B).take n = A.take n := List.take_append_of_le_length h
theorem drop_l {A B : List Nat} {n : Nat} (h : n ≤ A.length) : (A ++ B).drop n = A.drop n ++ B := List.drop_append_of_le_length h
theorem take_r {A B : List Nat} {n : Nat} (h : A.length ≤ n) : (A ++ B).take n = A ++ B.take (n - A.length) := by
  rw [List.take_append, List.take_of_length_le h]
theorem drop_r {A B : List Nat} {n : Nat} (h : A.length ≤ n) : (A ++ B).drop n = B.drop (n - A.length) := by
  rw [List.drop_append, List.drop_eq_nil_of_le h, List.nil_append]

/-! ### parts of a text: from b up to e -/
def sub (b e : Int) (l : List Nat) : List Nat := (l.drop b.toNat).take (e - b).toNat
theorem sub_nil {b e : Int} {l : List Nat} (h : e ≤ b) : sub b e l = [] := by
  unfold sub
  rw [show (e - b).toNat = 0 by omega]
  rfl
theorem sub_empty (b e : Int) : sub b e [] = [] := by
  unfold sub
  rw [List.drop_nil, List.take_nil]
theorem sub_app {b e : Int} {x y : List Nat} (h : 0 ≤ b) :
    sub b e (x ++ y) = sub b (if (x.length : Int) < e then (x.length : Int) else e) x ++ sub ((if (x.length : Int) > b then (x.length : Int) else b) - x.length) (e - x.length) y := by
  by_cases h1 : (x.length : Int) < e
  · rw [if_pos h1]
    by_cases h2 : (x.length : Int) > b
    · rw [if_pos h2, Int.sub_self]
      unfold sub
      rw [drop_l (by omega), take_r (by rw [List.length_drop]; omega)]
      congr 1
      · exact (List.take_of_length_le (by rw [List.length_drop]; omega)).symm
      · rw [show (0 : Int).toNat = 0 from rfl, List.drop_zero, List.length_drop]
        congr 1
        omega
    · rw [if_neg h2, sub_nil (by omega : (x.length : Int) ≤ b), List.nil_append]
      unfold sub
      rw [drop_r (by omega)]
      congr 1
      · omega
      · congr 1
        omega
  · rw [if_neg h1]
    have e2 : sub ((if (x.length : Int) > b then (x.length : Int) else b) - x.length) (e - x.length) y = [] := by
      refine sub_nil ?_
      by_cases h2 : (x.length : Int) > b
      · rw [if_pos h2]
        omega
      · rw [if_neg h2]
        omega
    rw [e2, List.append_nil]
    by_cases h3 : e ≤ b
    · rw [sub_nil h3, sub_nil h3]
    · unfold sub
      rw [drop_l (by omega), take_l (by rw [List.length_drop]; omega)]
theorem sub_len {b e : Int} {l : List Nat} : (sub b e l).length ≤ l.length := by
  unfold sub
  rw [List.length_take, List.length_drop]
  omega
/-- a piece's share -/
theorem sub_ptx {S : List Nat} {p : Pc} {b e : Int} (h : PcOk S p) (h0 : 0 ≤ b) (h1 : b < e) (h2 : e ≤ p.s) : sub b e (ptx S p) = (S.drop (p.b + b.toNat)).take (e - b).toNat := by
  unfold sub ptx
  rw [List.drop_take, List.drop_drop, List.take_take, Nat.min_eq_left (by omega)]

/-! ### line feeds ahead of a place -/
theorem cnt_take_l {A B : List Nat} {n : Nat} (h : n ≤ A.length) : ((A ++ B).take n).count 10 = (A.take n).count 10 := by rw [take_l h]
theorem cnt_take_r {A B : List Nat} {n : Nat} (h : A.length ≤ n) : ((A ++ B).take n).count 10 = A.count 10 + (B.take (n - A.length)).count 10 := by
  rw [take_r h, List.count_append]

/-! ### the place of a line feed -/
def posE : List Nat → Nat → Nat
  | [], _ => 0
  | c :: r, k => if c = 10 then (match k with | 0 => 0 | k + 1 => 1 + posE r k) else 1 + posE r k
theorem posE_app : ∀ (x y : List Nat) (k : Nat), posE (x ++ y) k = if k < x.count 10 then posE x k else x.length + posE y (k - x.count 10)
  | [], y, k => by
    rw [if_neg (by rw [List.count_nil]; omega)]
    simp
  | c :: r, y, k => by
    show (if c = 10 then (match k with | 0 => 0 | k + 1 => 1 + posE (r ++ y) k) else 1 + posE (r ++ y) k) = if k < (c :: r).count 10 then (if c = 10 then (match k with | 0 => 0 | k + 1 => 1 + posE r k) else 1 + posE r k) else _
    by_cases hc : c = 10
    · subst hc
      rw [if_pos rfl, if_pos rfl, List.count_cons_self]
      cases k with
      | zero => rw [if_pos (Nat.succ_pos _)]
      | succ k =>
        show 1 + posE (r ++ y) k = if k + 1 < r.count 10 + 1 then 1 + posE r k else _
        rw [posE_app r y k]
        by_cases h : k < r.count 10
        · rw [if_pos h, if_pos (by omega)]
        · rw [if_neg h, if_neg (by omega), List.length_cons, Nat.add_sub_add_right]
          omega
    · rw [if_neg hc, if_neg hc, List.count_cons_of_ne hc, posE_app r y k]
      by_cases h : k < r.count 10
      · rw [if_pos h, if_pos h]
      · rw [if_neg h, if_neg h, List.length_cons]
        omega

/-! ### lines -/
def jn : List (List Nat) → List Nat
  | [] => []
  | [x] => x
  | x :: y :: r => x ++ 10 :: jn (y :: r)
def lns : List Nat → List (List Nat)
  | [] => [[]]
  | c :: r => if c = 10 then [] :: lns r else
    match lns r with
    | [] => [[c]]
    | x :: xs => (c :: x) :: xs
theorem lns_ne : ∀ l : List Nat, lns l ≠ []
  | [] => List.cons_ne_nil _ _
  | c :: r => by
    show (if c = 10 then [] :: lns r else match lns r with | [] => [[c]] | x :: xs => (c :: x) :: xs) ≠ []
    split
    · exact List.cons_ne_nil _ _
    · split <;> exact List.cons_ne_nil _ _
theorem jn_cons {x : List Nat} {r : List (List Nat)} (h : r ≠ []) : jn (x :: r) = x ++ 10 :: jn r := by
  cases r with
  | nil => exact absurd rfl h
  | cons y r => rfl
theorem lns_jn : ∀ l : List Nat, jn (lns l) = l
  | [] => rfl
  | c :: r => by
    have ih := lns_jn r
    show jn (if c = 10 then [] :: lns r else match lns r with | [] => [[c]] | x :: xs => (c :: x) :: xs) = c :: r
    by_cases hc : c = 10
    · rw [if_pos hc, jn_cons (lns_ne r), ih, hc]
      rfl
    · rw [if_neg hc]
      cases e : lns r with
      | nil => exact absurd e (lns_ne r)
      | cons x xs =>
        rw [e] at ih
        show jn ((c :: x) :: xs) = c :: r
        cases xs with
        | nil =>
          have : x = r := ih
          rw [this]
          rfl
        | cons y ys =>
          have : x ++ 10 :: jn (y :: ys) = r := ih
          rw [← this]
          rfl
theorem lns_free : ∀ (l : List Nat), ∀ p ∈ lns l, (10 : Nat) ∉ p
  | [], p, h => by
    have : p = [] := List.mem_singleton.mp h
    rw [this]
    exact fun z => nomatch z
  | c :: r, p, h => by
    have ih := lns_free r
    have h' : p ∈ (if c = 10 then [] :: lns r else match lns r with | [] => [[c]] | x :: xs => (c :: x) :: xs) := h
    by_cases hc : c = 10
    · rw [if_pos hc] at h'
      rcases List.mem_cons.mp h' with e | e
      · rw [e]
        exact fun z => nomatch z
      · exact ih p e
    · rw [if_neg hc] at h'
      cases e : lns r with
      | nil => exact absurd e (lns_ne r)
      | cons x xs =>
        rw [e] at h' ih
        rcases List.mem_cons.mp h' with q | q
        · rw [q]
          intro z
          rcases List.mem_cons.mp z with z | z
          · exact hc z.symm
          · exact ih x (List.mem_cons_self ..) z
        · exact ih p (List.mem_cons_of_mem _ q)
/-- the place at which line i begins -/
def bg : List (List Nat) → Nat → Nat
  | _, 0 => 0
  | [], _ + 1 => 0
  | x :: r, i + 1 => x.length + 1 + bg r i
theorem bg_succ : ∀ {ls : List (List Nat)} {i : Nat} {x : List Nat}, ls[i]? = some x → bg ls (i + 1) = bg ls i + x.length + 1
  | [], i, x, h => by simp at h
  | y :: r, 0, x, h => by
    have e : y = x := Option.some.inj h
    subst e
    show y.length + 1 + bg r 0 = 0 + y.length + 1
    cases r <;> (show y.length + 1 + 0 = _; omega)
  | y :: r, i + 1, x, h => by
    have ih := bg_succ (ls := r) (i := i) (x := x) h
    show y.length + 1 + bg r (i + 1) = y.length + 1 + bg r i + x.length + 1
    omega
theorem bg_all : ∀ {ls : List (List Nat)}, ls ≠ [] → bg ls ls.length = (jn ls).length + 1
  | [], h => absurd rfl h
  | [x], _ => by
    show x.length + 1 + bg [] 0 = x.length + 1
    rfl
  | x :: y :: r, _ => by
    have ih := bg_all (ls := y :: r) (List.cons_ne_nil _ _)
    show x.length + 1 + bg (y :: r) (y :: r).length = (x ++ 10 :: jn (y :: r)).length + 1
    rw [ih, List.length_append, List.length_cons]
    omega
theorem cnt_free {p : List Nat} (h : (10 : Nat) ∉ p) : p.count 10 = 0 := List.count_eq_zero.mpr h
theorem cnt_jn : ∀ {ls : List (List Nat)}, ls ≠ [] → (∀ p ∈ ls, (10 : Nat) ∉ p) → (jn ls).count 10 + 1 = ls.length
  | [], h, _ => absurd rfl h
  | [x], _, hf => by
    show x.count 10 + 1 = 1
    rw [cnt_free (hf x (List.mem_cons_self ..))]
  | x :: y :: r, _, hf => by
    have ih := cnt_jn (ls := y :: r) (List.cons_ne_nil _ _) fun p hp => hf p (List.mem_cons_of_mem _ hp)
    show (x ++ 10 :: jn (y :: r)).count 10 + 1 = (y :: r).length + 1
    rw [List.count_append, List.count_cons_self, cnt_free (hf x (List.mem_cons_self ..)), ← ih]
    omega
theorem posE_free {x : List Nat} (h : (10 : Nat) ∉ x) (r : List Nat) : posE (x ++ 10 :: r) 0 = x.length := by
  rw [posE_app, cnt_free h, if_neg (by omega)]
  show x.length + posE (10 :: r) 0 = x.length
  show x.length + (if (10 : Nat) = 10 then 0 else _) = x.length
  rw [if_pos rfl]
  rfl
theorem posE_bg : ∀ {ls : List (List Nat)} {k : Nat}, (∀ p ∈ ls, (10 : Nat) ∉ p) → k + 1 < ls.length → posE (jn ls) k + 1 = bg ls (k + 1)
  | [], _, _, h => absurd h (Nat.not_lt_zero _)
  | [x], k, _, h => by
    have : k + 1 < 1 := h
    omega
  | x :: y :: r, k, hf, h => by
    have hx := hf x (List.mem_cons_self ..)
    show posE (x ++ 10 :: jn (y :: r)) k + 1 = x.length + 1 + bg (y :: r) k
    cases k with
    | zero =>
      rw [posE_free hx]
      rfl
    | succ k =>
      have hk : k + 1 < (y :: r).length := by
        have : k + 1 + 1 < (y :: r).length + 1 := h
        omega
      have ih := posE_bg (ls := y :: r) (k := k) (fun p hp => hf p (List.mem_cons_of_mem _ hp)) hk
      rw [posE_app, cnt_free hx, if_neg (by omega), Nat.sub_zero]
      show x.length + (if (10 : Nat) = 10 then 1 + posE (jn (y :: r)) k else _) + 1 = _
      rw [if_pos rfl, ← ih]
      omega
theorem jn_take : ∀ {ls : List (List Nat)} {k : Nat}, k < ls.length → (jn (ls.take (k + 1))).length + 1 = bg ls (k + 1)
  | [], _, h => absurd h (Nat.not_lt_zero _)
  | x :: r, 0, _ => by
    show (jn (x :: r.take 0)).length + 1 = x.length + 1 + bg r 0
    rw [List.take_zero]
    cases r <;> rfl
  | x :: r, k + 1, h => by
    have hk : k < r.length := Nat.lt_of_succ_lt_succ h
    have ih := jn_take (ls := r) (k := k) hk
    have hne : r.take (k + 1) ≠ [] := by
      intro z
      have : (r.take (k + 1)).length = 0 := by rw [z]; rfl
      rw [List.length_take] at this
      omega
    show (jn (x :: r.take (k + 1))).length + 1 = x.length + 1 + bg r (k + 1)
    rw [jn_cons hne, ← ih, List.length_append, List.length_cons]
    omega
/-- what the leaf of end_place reckons -/
theorem leaf_pos {l : List Nat} {k : Nat} (h : k < l.count 10) : (jn ((lns l).take (k + 1))).length = posE l k := by
  have h1 := cnt_jn (lns_ne l) (lns_free l)
  rw [lns_jn] at h1
  have h2 := jn_take (ls := lns l) (k := k) (by omega)
  have h3 := posE_bg (ls := lns l) (k := k) (lns_free l) (by omega)
  rw [lns_jn] at h3
  omega
theorem cnt_at : ∀ {ls : List (List Nat)} {i c : Nat} {x : List Nat}, (∀ p ∈ ls, (10 : Nat) ∉ p) → ls[i]? = some x → c ≤ x.length → ((jn ls).take (bg ls i + c)).count 10 = i
  | [], i, c, x, _, h, _ => by simp at h
  | [y], 0, c, x, hf, h, hc => by
    have e : y = x := Option.some.inj h
    subst e
    have hy := hf y (List.mem_cons_self ..)
    show (y.take (0 + c)).count 10 = 0
    exact cnt_free fun z => hy (List.mem_of_mem_take z)
  | [y], i + 1, c, x, _, h, _ => by simp at h
  | y :: z :: r, 0, c, x, hf, h, hc => by
    have e : y = x := Option.some.inj h
    subst e
    have hy := hf y (List.mem_cons_self ..)
    show ((y ++ 10 :: jn (z :: r)).take (0 + c)).count 10 = 0
    rw [Nat.zero_add, take_l hc]
    exact cnt_free fun z => hy (List.mem_of_mem_take z)
  | y :: z :: r, i + 1, c, x, hf, h, hc => by
    have ih := cnt_at (ls := z :: r) (i := i) (c := c) (x := x) (fun p hp => hf p (List.mem_cons_of_mem _ hp)) h hc
    have hy := hf y (List.mem_cons_self ..)
    show ((y ++ 10 :: jn (z :: r)).take (y.length + 1 + bg (z :: r) i + c)).count 10 = i + 1
    rw [take_r (by omega), List.count_append, cnt_free hy, show y.length + 1 + bg (z :: r) i + c - y.length = (bg (z :: r) i + c) + 1 by omega, List.take_succ_cons, List.count_cons_self, ih]
    omega
theorem bg_le : ∀ {ls : List (List Nat)} {i : Nat} {x : List Nat}, ls[i]? = some x → bg ls i + x.length ≤ (jn ls).length
  | [], i, x, h => by simp at h
  | [y], 0, x, h => by
    have e : y = x := Option.some.inj h
    subst e
    show 0 + y.length ≤ y.length
    omega
  | [y], i + 1, x, h => by simp at h
  | y :: z :: r, 0, x, h => by
    have e : y = x := Option.some.inj h
    subst e
    show 0 + y.length ≤ (y ++ 10 :: jn (z :: r)).length
    rw [List.length_append]
    omega
  | y :: z :: r, i + 1, x, h => by
    have ih := bg_le (ls := z :: r) (i := i) (x := x) h
    show y.length + 1 + bg (z :: r) i + x.length ≤ (y ++ 10 :: jn (z :: r)).length
    rw [List.length_append, List.length_cons]
    omega
end Ink
end
section
/-! Plain mathematics: changes. -/
namespace Ink

inductive Part where
  | keep (n : Nat)
  | cut (x : List Nat)
  | put (x : List Nat)
/-- the signs of texts: 10, 32 to 126 but 37 -/
def okc (c : Nat) : Bool := decide (c = 10) || (decide (32 ≤ c) && decide (c ≤ 126) && !decide (c = 37))
def OkT (x : List Nat) : Prop := ∀ c ∈ x, okc c = true
theorem okt_nil : OkT [] := fun _ h => nomatch h
theorem okt_app {x y : List Nat} (hx : OkT x) (hy : OkT y) : OkT (x ++ y) := fun c h => by
  rcases List.mem_append.mp h with e | e
  · exact hx c e
  · exact hy c e
theorem okt_take {x : List Nat} (n : Nat) (h : OkT x) : OkT (x.take n) := fun c hc => h c (List.mem_of_mem_take hc)
theorem okt_drop {x : List Nat} (n : Nat) (h : OkT x) : OkT (x.drop n) := fun c hc => h c (List.mem_of_mem_drop hc)

/-- a change (neat or not) over a text: keeps and cuts go through it, cuts tell what stands there -/
def fits : List Part → List Nat → Prop
  | [], l => l = []
  | .keep n :: r, l => n ≤ l.length ∧ fits r (l.drop n)
  | .cut x :: r, l => l.take x.length = x ∧ fits r (l.drop x.length)
  | .put x :: r, l => OkT x ∧ fits r l
/-- what it gives -/
def res : List Part → List Nat → List Nat
  | [], _ => []
  | .keep n :: r, l => l.take n ++ res r (l.drop n)
  | .cut x :: r, l => res r (l.drop x.length)
  | .put x :: r, l => x ++ res r l
def over1 : Part → Nat
  | .keep n => n
  | .cut x => x.length
  | .put _ => 0
def give1 : Part → Nat
  | .keep n => n
  | .cut _ => 0
  | .put x => x.length
def over : List Part → Nat
  | [] => 0
  | p :: r => over1 p + over r
def puts1 : Part → Nat
  | .put x => x.length
  | _ => 0
def puts : List Part → Nat
  | [] => 0
  | p :: r => puts1 p + puts r
theorem over_app : ∀ a b : List Part, over (a ++ b) = over a + over b
  | [], b => by
    show over b = 0 + over b
    omega
  | p :: r, b => by
    show over1 p + over (r ++ b) = over1 p + over r + over b
    rw [over_app r b]
    omega
theorem puts_app : ∀ a b : List Part, puts (a ++ b) = puts a + puts b
  | [], b => by
    show puts b = 0 + puts b
    omega
  | p :: r, b => by
    show puts1 p + puts (r ++ b) = puts1 p + puts r + puts b
    rw [puts_app r b]
    omega
theorem fits_app : ∀ {a b : List Part} {l : List Nat}, fits (a ++ b) l ↔ (over a ≤ l.length ∧ fits a (l.take (over a)) ∧ fits b (l.drop (over a)))
  | [], b, l => by
    show fits b l ↔ (0 ≤ l.length ∧ l.take 0 = [] ∧ fits b (l.drop 0))
    rw [List.drop_zero, List.take_zero]
    exact ⟨fun h => ⟨Nat.zero_le _, rfl, h⟩, fun h => h.2.2⟩
  | .keep n :: r, b, l => by
    have ih := fits_app (a := r) (b := b) (l := l.drop n)
    show (n ≤ l.length ∧ fits (r ++ b) (l.drop n)) ↔ (n + over r ≤ l.length ∧ (n ≤ (l.take (n + over r)).length ∧ fits r ((l.take (n + over r)).drop n)) ∧ fits b (l.drop (n + over r)))
    rw [ih, List.drop_drop, List.length_drop, List.drop_take, Nat.add_sub_cancel_left, List.length_take]
    constructor
    · rintro ⟨h1, h2, h3, h4⟩
      exact ⟨by omega, ⟨by omega, h3⟩, h4⟩
    · rintro ⟨h1, ⟨h2, h3⟩, h4⟩
      exact ⟨by omega, by omega, h3, h4⟩
  | .cut x :: r, b, l => by
    have ih := fits_app (a := r) (b := b) (l := l.drop x.length)
    show (l.take x.length = x ∧ fits (r ++ b) (l.drop x.length)) ↔ (x.length + over r ≤ l.length ∧ ((l.take (x.length + over r)).take x.length = x ∧ fits r ((l.take (x.length + over r)).drop x.length)) ∧ fits b (l.drop (x.length + over r)))
    rw [ih, List.drop_drop, List.length_drop, List.drop_take, Nat.add_sub_cancel_left, List.take_take, Nat.min_eq_left (Nat.le_add_right _ _)]
    constructor
    · rintro ⟨h1, h2, h3, h4⟩
      have hl : x.length ≤ l.length := by
        have e : (l.take x.length).length = x.length := by rw [h1]
        rw [List.length_take] at e
        omega
      exact ⟨by omega, ⟨h1, h3⟩, h4⟩
    · rintro ⟨h1, ⟨h2, h3⟩, h4⟩
      exact ⟨h2, by omega, h3, h4⟩
  | .put x :: r, b, l => by
    have ih := fits_app (a := r) (b := b) (l := l)
    show (OkT x ∧ fits (r ++ b) l) ↔ (0 + over r ≤ l.length ∧ (OkT x ∧ fits r (l.take (0 + over r))) ∧ fits b (l.drop (0 + over r)))
    rw [ih, Nat.zero_add]
    constructor
    · rintro ⟨h1, h2, h3, h4⟩
      exact ⟨h2, ⟨h1, h3⟩, h4⟩
    · rintro ⟨h1, ⟨h2, h3⟩, h4⟩
      exact ⟨h2, h1, h3, h4⟩
theorem fits_over : ∀ {a : List Part} {l : List Nat}, fits a l → over a = l.length
  | [], l, h => by
    have e : l = [] := h
    rw [e]
    rfl
  | .keep n :: r, l, h => by
    obtain ⟨h1, h2⟩ := h
    have ih := fits_over h2
    rw [List.length_drop] at ih
    show n + over r = l.length
    omega
  | .cut x :: r, l, h => by
    obtain ⟨h1, h2⟩ := h
    have ih := fits_over h2
    rw [List.length_drop] at ih
    have e : (l.take x.length).length = x.length := by rw [h1]
    rw [List.length_take] at e
    show x.length + over r = l.length
    omega
  | .put x :: r, l, h => by
    have ih := fits_over h.2
    show 0 + over r = l.length
    omega
theorem fits_cut_le {x l : List Nat} (h : l.take x.length = x) : x.length ≤ l.length := by
  have e : (l.take x.length).length = x.length := by rw [h]
  rw [List.length_take] at e
  omega
theorem res_len : ∀ {a : List Part} {l : List Nat}, fits a l → (res a l).length ≤ l.length + puts a
  | [], _, _ => Nat.zero_le _
  | .keep n :: r, l, h => by
    have ih := res_len h.2
    have h1 := h.1
    rw [List.length_drop] at ih
    show (l.take n ++ res r (l.drop n)).length ≤ l.length + (0 + puts r)
    rw [List.length_append, List.length_take]
    omega
  | .cut x :: r, l, h => by
    have ih := res_len h.2
    rw [List.length_drop] at ih
    show (res r (l.drop x.length)).length ≤ l.length + (0 + puts r)
    omega
  | .put x :: r, l, h => by
    have ih := res_len h.2
    show (x ++ res r l).length ≤ l.length + (x.length + puts r)
    rw [List.length_append]
    omega
theorem res_ok : ∀ {a : List Part} {l : List Nat}, fits a l → OkT l → OkT (res a l)
  | [], _, _, _ => okt_nil
  | .keep n :: r, l, h, o => okt_app (okt_take n o) (res_ok h.2 (okt_drop n o))
  | .cut x :: r, l, h, o => res_ok (a := r) h.2 (okt_drop x.length o)
  | .put x :: r, l, h, o => okt_app h.1 (res_ok h.2 o)

/-! ### neat -/
def good : Part → Prop
  | .keep n => 0 < n
  | .cut x => x ≠ [] ∧ OkT x
  | .put x => x ≠ [] ∧ OkT x
def adj : Part → Part → Prop
  | .keep _, .keep _ => False
  | .cut _, .cut _ => False
  | .cut _, .put _ => False
  | .put _, .put _ => False
  | _, _ => True
structure Neat (cs : List Part) : Prop where
  gd : ∀ p ∈ cs, good p
  ad : ∀ (i : Nat) (a b : Part), cs[i]? = some a → cs[i + 1]? = some b → adj a b
def flushP (p c : List Nat) : List Part := (if p = [] then [] else [.put p]) ++ (if c = [] then [] else [.cut c])
/-- a number of signs kept behind gathered puts and cuts -/
def lastK (f : List Part) : Option (List Part × Nat) := match f.getLast? with
  | some (.keep m) => some (f.dropLast, m)
  | _ => none
theorem lastK_some {f g : List Part} {m : Nat} (h : lastK f = some (g, m)) : f = g ++ [.keep m] := by
  unfold lastK at h
  cases e : f.getLast? with
  | none =>
    rw [e] at h
    cases h
  | some a =>
    rw [e] at h
    cases a with
    | cut x => cases h
    | put x => cases h
    | keep n =>
      have q : (f.dropLast, n) = (g, m) := Option.some.inj h
      injection q with q1 q2
      obtain ⟨r, hr⟩ := List.getLast?_eq_some_iff.mp e
      rw [← q1, ← q2, hr, List.dropLast_concat]
theorem lastK_snoc (g : List Part) (m : Nat) : lastK (g ++ [.keep m]) = some (g, m) := by
  unfold lastK
  rw [List.getLast?_append]
  show some ((g ++ [Part.keep m]).dropLast, m) = some (g, m)
  rw [List.dropLast_concat]
def keepOn (f : List Part) (n : Nat) : List Part := match lastK f with
  | some (g, m) => g ++ [.keep (m + n)]
  | none => f ++ [.keep n]
/-- the gathering: what was found, the puts, the cuts since the last keep -/
structure NSt where
  f : List Part
  p : List Nat
  c : List Nat
def stepN (s : NSt) : Part → NSt
  | .put x => ⟨s.f, s.p ++ x, s.c⟩
  | .cut x => ⟨s.f, s.p, s.c ++ x⟩
  | .keep n => if 0 < n then ⟨keepOn (s.f ++ flushP s.p s.c) n, [], []⟩ else s
def neatL (rs : List Part) : List Part :=
  let s := rs.foldl stepN ⟨[], [], []⟩
  s.f ++ flushP s.p s.c

theorem neat_nil : Neat [] := ⟨fun _ h => (nomatch h), fun i a b h _ => (by simp at h)⟩
theorem neat_snoc {f : List Part} {p : Part} (h : Neat f) (hp : good p) (ha : ∀ a, f.getLast? = some a → adj a p) : Neat (f ++ [p]) := by
  refine ⟨fun q hq => ?_, fun i a b h1 h2 => ?_⟩
  · rcases List.mem_append.mp hq with e | e
    · exact h.gd q e
    · rw [List.mem_singleton.mp e]
      exact hp
  · by_cases hi : i + 1 < f.length
    · rw [List.getElem?_append_left (by omega)] at h1
      rw [List.getElem?_append_left hi] at h2
      exact h.ad i a b h1 h2
    · have hl : i + 1 < (f ++ [p]).length := by
        obtain ⟨q, _⟩ := List.getElem?_eq_some_iff.mp h2
        exact q
      rw [List.length_append, List.length_singleton] at hl
      have e : i + 1 = f.length := by omega
      rw [e, List.getElem?_append_right (Nat.le_refl _), Nat.sub_self] at h2
      have e2 : p = b := Option.some.inj h2
      subst e2
      rw [List.getElem?_append_left (by omega)] at h1
      refine ha a ?_
      rw [List.getLast?_eq_getElem?, show f.length - 1 = i by omega]
      exact h1
theorem neat_last {f : List Part} {p : Part} (h : Neat (f ++ [p])) : Neat f ∧ good p ∧ ∀ a, f.getLast? = some a → adj a p := by
  refine ⟨⟨fun q hq => h.gd q (List.mem_append_left _ hq), fun i a b h1 h2 => ?_⟩, h.gd p (List.mem_append_right _ (List.mem_singleton.mpr rfl)), fun a ha => ?_⟩
  · obtain ⟨q1, _⟩ := List.getElem?_eq_some_iff.mp h1
    obtain ⟨q2, _⟩ := List.getElem?_eq_some_iff.mp h2
    exact h.ad i a b (by rw [List.getElem?_append_left q1]; exact h1) (by rw [List.getElem?_append_left q2]; exact h2)
  · rw [List.getLast?_eq_getElem?] at ha
    obtain ⟨q, _⟩ := List.getElem?_eq_some_iff.mp ha
    refine h.ad (f.length - 1) a p (by rw [List.getElem?_append_left q]; exact ha) ?_
    rw [show f.length - 1 + 1 = f.length by omega, List.getElem?_append_right (Nat.le_refl _), Nat.sub_self]
    rfl
/-- the last part, if there is one, is a keep -/
def endK (f : List Part) : Prop := ∀ a, f.getLast? = some a → ∃ n, a = .keep n
structure NInv (s : NSt) : Prop where
  nt : Neat s.f
  ek : endK s.f
  pk : OkT s.p
  ck : OkT s.c
theorem flush_neat {s : NSt} (h : NInv s) : Neat (s.f ++ flushP s.p s.c) := by
  unfold flushP
  by_cases hp : s.p = []
  · rw [if_pos hp, List.nil_append]
    by_cases hc : s.c = []
    · rw [if_pos hc, List.append_nil]
      exact h.nt
    · rw [if_neg hc]
      exact neat_snoc h.nt ⟨hc, h.ck⟩ fun a ha => by
        obtain ⟨n, e⟩ := h.ek a ha
        subst e
        exact trivial
  · rw [if_neg hp]
    have h1 : Neat (s.f ++ [.put s.p]) := neat_snoc h.nt ⟨hp, h.pk⟩ fun a ha => by
      obtain ⟨n, e⟩ := h.ek a ha
      subst e
      exact trivial
    by_cases hc : s.c = []
    · rw [if_pos hc, List.append_nil]
      exact h1
    · rw [if_neg hc, ← List.append_assoc]
      exact neat_snoc h1 ⟨hc, h.ck⟩ fun a ha => by
        rw [List.getLast?_append] at ha
        have e : Part.put s.p = a := Option.some.inj ha
        subst e
        exact trivial
theorem flush_empty : flushP [] [] = [] := rfl
theorem last_of_flush {f : List Part} {p c : List Nat} (h : p ≠ [] ∨ c ≠ []) : ∀ a, (f ++ flushP p c).getLast? = some a → ∀ n, a ≠ .keep n := by
  intro a ha n
  unfold flushP at ha
  by_cases hc : c = []
  · have hp : p ≠ [] := h.elim id fun z => absurd hc z
    rw [if_pos hc, if_neg hp, List.append_nil, List.getLast?_append] at ha
    have e : Part.put p = a := Option.some.inj ha
    rw [← e]
    exact fun z => nomatch z
  · rw [if_neg hc, ← List.append_assoc, List.getLast?_append] at ha
    have e : Part.cut c = a := Option.some.inj ha
    rw [← e]
    exact fun z => nomatch z
theorem lastK_none {f : List Part} (h : lastK f = none) : ∀ a, f.getLast? = some a → ∀ n, a ≠ .keep n := by
  intro a ha n e
  subst e
  obtain ⟨g, hg⟩ := List.getLast?_eq_some_iff.mp ha
  rw [hg, lastK_snoc] at h
  cases h
theorem keepOn_neat {f : List Part} {n : Nat} (h : Neat f) (hn : 0 < n) : Neat (keepOn f n) ∧ endK (keepOn f n) := by
  unfold keepOn
  cases e : lastK f with
  | none =>
    refine ⟨neat_snoc h hn fun a ha => ?_, fun a ha => ?_⟩
    · have q := lastK_none e a ha
      cases a with
      | keep m => exact absurd rfl (q m)
      | cut x => exact trivial
      | put x => exact trivial
    · have ha' : (f ++ [Part.keep n]).getLast? = some a := ha
      rw [List.getLast?_append] at ha'
      exact ⟨n, (Option.some.inj ha').symm⟩
  | some z =>
    obtain ⟨g, m⟩ := z
    have q := lastK_some e
    rw [q] at h
    obtain ⟨h1, h2, h3⟩ := neat_last h
    refine ⟨neat_snoc h1 (by show 0 < m + n; omega) fun a ha => ?_, fun a ha => ?_⟩
    · have z := h3 a ha
      cases a with
      | keep k => exact z
      | cut x => exact trivial
      | put x => exact trivial
    · have ha' : (g ++ [Part.keep (m + n)]).getLast? = some a := ha
      rw [List.getLast?_append] at ha'
      exact ⟨m + n, (Option.some.inj ha').symm⟩
/-- what a raw part must be: its text of the signs -/
def rawOk : Part → Prop
  | .keep _ => True
  | .cut x => OkT x
  | .put x => OkT x
theorem step_inv {s : NSt} {r : Part} (h : NInv s) (hr : rawOk r) : NInv (stepN s r) := by
  cases r with
  | put x => exact ⟨h.nt, h.ek, okt_app h.pk hr, h.ck⟩
  | cut x => exact ⟨h.nt, h.ek, h.pk, okt_app h.ck hr⟩
  | keep n =>
    show NInv (if 0 < n then ⟨keepOn (s.f ++ flushP s.p s.c) n, [], []⟩ else s)
    by_cases hn : 0 < n
    · rw [if_pos hn]
      obtain ⟨h1, h2⟩ := keepOn_neat (flush_neat h) hn
      exact ⟨h1, h2, okt_nil, okt_nil⟩
    · rw [if_neg hn]
      exact h
theorem fold_inv : ∀ {rs : List Part} {s : NSt}, NInv s → (∀ r ∈ rs, rawOk r) → NInv (rs.foldl stepN s)
  | [], _, h, _ => h
  | r :: rs, s, h, hr => fold_inv (rs := rs) (step_inv h (hr r (List.mem_cons_self ..))) fun q hq => hr q (List.mem_cons_of_mem _ hq)
theorem inv0 : NInv ⟨[], [], []⟩ := ⟨neat_nil, fun a h => (by cases h), okt_nil, okt_nil⟩
theorem neatL_neat {rs : List Part} (h : ∀ r ∈ rs, rawOk r) : Neat (neatL rs) := flush_neat (fold_inv inv0 h)

/-! ### it fits the same texts -/
def opn (s : NSt) : List Part := s.f ++ [.put s.p, .cut s.c]
theorem flush_fits {p c : List Nat} {rest : List Part} {l : List Nat} (h : fits (.put p :: .cut c :: rest) l) : fits (flushP p c ++ rest) l := by
  obtain ⟨h1, h2, h3⟩ := h
  have h3' : fits rest (l.drop c.length) := h3
  unfold flushP
  by_cases hc : c = []
  · subst hc
    rw [if_pos rfl, List.append_nil]
    have q : fits rest l := by
      rw [List.length_nil, List.drop_zero] at h3'
      exact h3'
    by_cases hp : p = []
    · rw [if_pos hp]
      exact q
    · rw [if_neg hp]
      exact ⟨h1, q⟩
  · rw [if_neg hc]
    by_cases hp : p = []
    · rw [if_pos hp]
      exact ⟨h2, h3⟩
    · rw [if_neg hp]
      exact ⟨h1, h2, h3⟩
theorem fits_tail {a b b' : List Part} {l : List Nat} (h : fits (a ++ b) l) (q : ∀ m, fits b m → fits b' m) : fits (a ++ b') l := by
  rw [fits_app] at h ⊢
  exact ⟨h.1, h.2.1, q _ h.2.2⟩
theorem keepOn_fits {f : List Part} {n : Nat} {rest : List Part} {l : List Nat} (h : fits (f ++ .keep n :: rest) l) : fits (keepOn f n ++ rest) l := by
  unfold keepOn
  cases e : lastK f with
  | none =>
    show fits ((f ++ [.keep n]) ++ rest) l
    rw [List.append_assoc]
    exact h
  | some z =>
    obtain ⟨g, m⟩ := z
    have q := lastK_some e
    rw [q, List.append_assoc] at h
    show fits ((g ++ [.keep (m + n)]) ++ rest) l
    rw [List.append_assoc]
    refine fits_tail h fun k hk => ?_
    obtain ⟨h1, h2, h3⟩ := hk
    have h3' : fits rest ((k.drop m).drop n) := h3
    rw [List.drop_drop] at h3'
    rw [List.length_drop] at h2
    exact ⟨by omega, h3'⟩
theorem step_fits {s : NSt} {r : Part} {rest : List Part} {l : List Nat} (h : fits (opn s ++ r :: rest) l) : fits (opn (stepN s r) ++ rest) l := by
  unfold opn at h ⊢
  cases r with
  | put x =>
    show fits ((s.f ++ [.put (s.p ++ x), .cut s.c]) ++ rest) l
    rw [List.append_assoc] at h ⊢
    refine fits_tail h fun k hk => ?_
    obtain ⟨h1, h2, h3, h4⟩ := hk
    exact ⟨okt_app h1 h3, h2, h4⟩
  | cut x =>
    show fits ((s.f ++ [.put s.p, .cut (s.c ++ x)]) ++ rest) l
    rw [List.append_assoc] at h ⊢
    refine fits_tail h fun k hk => ?_
    obtain ⟨h1, h2, h3, h4⟩ := hk
    have h4' : fits rest ((k.drop s.c.length).drop x.length) := h4
    rw [List.drop_drop] at h4'
    refine ⟨h1, ?_, ?_⟩
    · rw [List.length_append, List.take_add, h2, h3]
    · show fits rest (k.drop (s.c ++ x).length)
      rw [List.length_append]
      exact h4'
  | keep n =>
    show fits ((stepN s (.keep n)).f ++ [.put (stepN s (.keep n)).p, .cut (stepN s (.keep n)).c] ++ rest) l
    by_cases hn : 0 < n
    · have e : stepN s (.keep n) = ⟨keepOn (s.f ++ flushP s.p s.c) n, [], []⟩ := if_pos hn
      rw [e]
      show fits (keepOn (s.f ++ flushP s.p s.c) n ++ [.put [], .cut []] ++ rest) l
      rw [List.append_assoc]
      have h1 : fits ((s.f ++ flushP s.p s.c) ++ .keep n :: rest) l := by
        rw [List.append_assoc] at h ⊢
        exact fits_tail h fun k hk => flush_fits hk
      refine fits_tail (keepOn_fits h1) fun k hk => ?_
      refine ⟨okt_nil, List.take_zero, ?_⟩
      show fits rest (k.drop 0)
      rw [List.drop_zero]
      exact hk
    · have e : stepN s (.keep n) = s := if_neg hn
      have e0 : n = 0 := by omega
      rw [e]
      rw [List.append_assoc] at h ⊢
      refine fits_tail h fun k hk => ?_
      obtain ⟨h1, h2, h3, h4⟩ := hk
      subst e0
      exact ⟨h1, h2, by rw [List.drop_zero] at h4; exact h4⟩
theorem fold_fits : ∀ {rs : List Part} {s : NSt} {l : List Nat}, fits (opn s ++ rs) l → fits (opn (rs.foldl stepN s)) l
  | [], s, l, h => by
    rw [List.append_nil] at h
    exact h
  | r :: rs, s, l, h => fold_fits (rs := rs) (step_fits h)
theorem neatL_fits {rs : List Part} {l : List Nat} (h : fits rs l) : fits (neatL rs) l := by
  have h1 : fits (opn ⟨[], [], []⟩ ++ rs) l := ⟨okt_nil, List.take_zero, by show fits rs (l.drop 0); rw [List.drop_zero]; exact h⟩
  have h2 := fold_fits h1
  unfold opn at h2
  show fits ((rs.foldl stepN ⟨[], [], []⟩).f ++ flushP (rs.foldl stepN ⟨[], [], []⟩).p (rs.foldl stepN ⟨[], [], []⟩).c) l
  refine fits_tail h2 fun k hk => ?_
  have := flush_fits (rest := []) hk
  rw [List.append_nil] at this
  exact this

/-! ### how many parts, how many signs are put -/
def b01 (x : List Nat) : Nat := if x = [] then 0 else 1
theorem b01_le (x : List Nat) : b01 x ≤ 1 := by
  unfold b01
  split <;> omega
theorem flush_len (p c : List Nat) : (flushP p c).length = b01 p + b01 c := by
  unfold flushP b01
  rw [List.length_append]
  by_cases hp : p = []
  · by_cases hc : c = []
    · rw [if_pos hp, if_pos hc, if_pos hp, if_pos hc]
      rfl
    · rw [if_pos hp, if_neg hc, if_pos hp, if_neg hc]
      rfl
  · by_cases hc : c = []
    · rw [if_neg hp, if_pos hc, if_neg hp, if_pos hc]
      rfl
    · rw [if_neg hp, if_neg hc, if_neg hp, if_neg hc]
      rfl
theorem keepOn_len (f : List Part) (n : Nat) : (keepOn f n).length ≤ f.length + 1 := by
  unfold keepOn
  cases e : lastK f with
  | none =>
    show (f ++ [Part.keep n]).length ≤ f.length + 1
    rw [List.length_append]
    exact Nat.le_refl _
  | some z =>
    obtain ⟨g, m⟩ := z
    have q := lastK_some e
    rw [q]
    show (g ++ [Part.keep (m + n)]).length ≤ (g ++ [Part.keep m]).length + 1
    rw [List.length_append, List.length_append]
    exact Nat.le_succ _
theorem step_len (s : NSt) (r : Part) : (stepN s r).f.length + b01 (stepN s r).p + b01 (stepN s r).c ≤ s.f.length + b01 s.p + b01 s.c + 1 := by
  cases r with
  | put x =>
    show s.f.length + b01 (s.p ++ x) + b01 s.c ≤ _
    have h1 := b01_le (s.p ++ x)
    omega
  | cut x =>
    show s.f.length + b01 s.p + b01 (s.c ++ x) ≤ _
    have h1 := b01_le (s.c ++ x)
    omega
  | keep n =>
    by_cases hn : 0 < n
    · have e : stepN s (.keep n) = ⟨keepOn (s.f ++ flushP s.p s.c) n, [], []⟩ := if_pos hn
      rw [e]
      show (keepOn (s.f ++ flushP s.p s.c) n).length + 0 + 0 ≤ _
      have h1 := keepOn_len (s.f ++ flushP s.p s.c) n
      rw [List.length_append, flush_len] at h1
      omega
    · have e : stepN s (.keep n) = s := if_neg hn
      rw [e]
      omega
theorem fold_len : ∀ {rs : List Part} {s : NSt}, (rs.foldl stepN s).f.length + b01 (rs.foldl stepN s).p + b01 (rs.foldl stepN s).c ≤ s.f.length + b01 s.p + b01 s.c + rs.length
  | [], s => Nat.le_refl _
  | r :: rs, s => by
    have ih := fold_len (rs := rs) (s := stepN s r)
    have h := step_len s r
    show (rs.foldl stepN (stepN s r)).f.length + b01 (rs.foldl stepN (stepN s r)).p + b01 (rs.foldl stepN (stepN s r)).c ≤ s.f.length + b01 s.p + b01 s.c + (rs.length + 1)
    omega
theorem neatL_len (rs : List Part) : (neatL rs).length ≤ rs.length := by
  have h := fold_len (rs := rs) (s := ⟨[], [], []⟩)
  show ((rs.foldl stepN ⟨[], [], []⟩).f ++ flushP (rs.foldl stepN ⟨[], [], []⟩).p (rs.foldl stepN ⟨[], [], []⟩).c).length ≤ rs.length
  rw [List.length_append, flush_len]
  have h' : (rs.foldl stepN ⟨[], [], []⟩).f.length + b01 (rs.foldl stepN ⟨[], [], []⟩).p + b01 (rs.foldl stepN ⟨[], [], []⟩).c ≤ 0 + 0 + 0 + rs.length := h
  omega
theorem flush_puts (p c : List Nat) : puts (flushP p c) = p.length := by
  unfold flushP
  rw [puts_app]
  by_cases hp : p = []
  · by_cases hc : c = []
    · rw [if_pos hp, if_pos hc, hp]
      rfl
    · rw [if_pos hp, if_neg hc, hp]
      rfl
  · by_cases hc : c = []
    · rw [if_neg hp, if_pos hc]
      rfl
    · rw [if_neg hp, if_neg hc]
      rfl
theorem keepOn_puts (f : List Part) (n : Nat) : puts (keepOn f n) = puts f := by
  unfold keepOn
  cases e : lastK f with
  | none =>
    show puts (f ++ [Part.keep n]) = puts f
    rw [puts_app]
    rfl
  | some z =>
    obtain ⟨g, m⟩ := z
    have q := lastK_some e
    rw [q]
    show puts (g ++ [Part.keep (m + n)]) = puts (g ++ [Part.keep m])
    rw [puts_app, puts_app]
    rfl
theorem step_puts (s : NSt) (r : Part) : puts (stepN s r).f + (stepN s r).p.length = puts s.f + s.p.length + puts1 r := by
  cases r with
  | put x =>
    show puts s.f + (s.p ++ x).length = puts s.f + s.p.length + x.length
    rw [List.length_append]
    omega
  | cut x => rfl
  | keep n =>
    by_cases hn : 0 < n
    · have e : stepN s (.keep n) = ⟨keepOn (s.f ++ flushP s.p s.c) n, [], []⟩ := if_pos hn
      rw [e]
      show puts (keepOn (s.f ++ flushP s.p s.c) n) + 0 = puts s.f + s.p.length + 0
      rw [keepOn_puts, puts_app, flush_puts]
    · have e : stepN s (.keep n) = s := if_neg hn
      rw [e]
      rfl
theorem fold_puts : ∀ {rs : List Part} {s : NSt}, puts (rs.foldl stepN s).f + (rs.foldl stepN s).p.length = puts s.f + s.p.length + puts rs
  | [], s => rfl
  | r :: rs, s => by
    have ih := fold_puts (rs := rs) (s := stepN s r)
    have h := step_puts s r
    show puts (rs.foldl stepN (stepN s r)).f + (rs.foldl stepN (stepN s r)).p.length = puts s.f + s.p.length + (puts1 r + puts rs)
    omega
theorem neatL_puts (rs : List Part) : puts (neatL rs) = puts rs := by
  have h := fold_puts (rs := rs) (s := ⟨[], [], []⟩)
  show puts ((rs.foldl stepN ⟨[], [], []⟩).f ++ flushP (rs.foldl stepN ⟨[], [], []⟩).p (rs.foldl stepN ⟨[], [], []⟩).c) = puts rs
  rw [puts_app, flush_puts, h]
  show 0 + 0 + puts rs = puts rs
  omega
end Ink
end
section
/-! The text by places, what the heap bears, how a def is promised. -/
namespace Ink
open PySem PySem.Spec PyProof.Rows L2 SX

/-! ### the text by places -/
def top (i : Nat) : Stmt := PySem.Challenge.pw_inkloom_k16_lines_and_places.main.body.getD i (.Pass ⟨0, 0, 0, 0⟩)
def inC (i j : Nat) : Stmt := inClass (top i) j

/-! ### defs -/
structure Df (K : PySem.W.Frag) (mg : Str → Option Value) (x nm : Str) (st : Stmt) (ps : List Str) : Prop where
  ex : ∃ f fd, C8.Fun K nm nm st f fd ∧ Binds K fd ps [] ∧ PySem.W.keepIn K (.ref f) = true ∧ mg x = some (.ref f)
structure Mf (K : PySem.W.Frag) (C : Addr) (m qual : Str) (st : Stmt) (ps : List Str) : Prop where
  ex : ∃ f fd, C8.Fun K m qual st f fd ∧ Binds K fd ps [] ∧ Cls K C ∧ Meth K C m f
structure Nf (K : PySem.W.Frag) (mg : Str → Option Value) (C : Addr) (x qual : Str) (st : Stmt) (ps : List Str) : Prop where
  ex : ∃ f fd, C8.Fun K "__init__" qual st f fd ∧ Binds K fd ps [] ∧ Mk K C f ∧ mg x = some (.ref C)

section
variable {P : Program} {w : World} {K : PySem.W.Frag} {mg : Str → Option Value} {base : Heap}
theorem Df.cal {x nm : Str} {st : Stmt} {N ps : List Str} {k : Nat} {sp : Sp} (D : Df K mg x nm st ps) (S : FnScope N ps (C8.fnScope st)) (len : ∀ vs H Q E, sp vs H Q E → vs.length = ps.length)
    (hbody : ∀ (f : Addr) (cdv : Value) (A : Around) (outer : List Env) (s : Shared) (H : Hp) (vs : List V) (Q : VK) (E : XK), Room k (A.deeper (envOfC nm (C8.fnScope st) s.heap.objs.size f cdv)) → sp vs H Q E →
      ∃ t, PSs (cxOf C8.CX0 P w K mg base N nm (C8.fnScope st) f cdv A outer s H E).nox (C8.fnBody st) t ∧ t { nx := fun _ H' => Q .non H', rt := Q } (start N vs) H) : C8.Cal P w K mg base (k + 1) x sp [] := by
  obtain ⟨f, fd, F, b, kp, m⟩ := D.ex
  exact ⟨f, fd, ps, [], C8.fn0 F S len (hbody f), m, kp, b, .nil⟩
theorem Mf.met {C : Addr} {m qual : Str} {st : Stmt} {N ps : List Str} {k : Nat} {sp : Sp} (D : Mf K C m qual st ps) (S : FnScope N ps (C8.fnScope st)) (len : ∀ vs H Q E, sp vs H Q E → vs.length = ps.length)
    (hbody : ∀ (f : Addr) (cdv : Value) (A : Around) (outer : List Env) (s : Shared) (H : Hp) (vs : List V) (Q : VK) (E : XK), Room k (A.deeper (envOfC qual (C8.fnScope st) s.heap.objs.size f cdv)) → sp vs H Q E →
      ∃ t, PSs (cxOf C8.CX0 P w K mg base N qual (C8.fnScope st) f cdv A outer s H E).nox (C8.fnBody st) t ∧ t { nx := fun _ H' => Q .non H', rt := Q } (start N vs) H) : C8.Met P w K mg base (k + 1) C m sp [] := by
  obtain ⟨f, fd, F, b, c, me⟩ := D.ex
  exact ⟨f, fd, ps, [], c, me, C8.fn0 F S len (hbody f), b, .nil⟩
theorem Nf.mak {C : Addr} {x qual : Str} {st : Stmt} {N ps : List Str} {k : Nat} {sp : Sp} (D : Nf K mg C x qual st ps) (S : FnScope N ps (C8.fnScope st)) (len : ∀ vs H Q E, sp vs H Q E → vs.length = ps.length)
    (hbody : ∀ (f : Addr) (cdv : Value) (A : Around) (outer : List Env) (s : Shared) (H : Hp) (vs : List V) (Q : VK) (E : XK), Room k (A.deeper (envOfC qual (C8.fnScope st) s.heap.objs.size f cdv)) → sp vs H Q E →
      ∃ t, PSs (cxOf C8.CX0 P w K mg base N qual (C8.fnScope st) f cdv A outer s H E).nox (C8.fnBody st) t ∧ t { nx := fun _ H' => Q .non H', rt := Q } (start N vs) H) : C8.Mak P w K mg base (k + 1) x C sp [] := by
  obtain ⟨f, fd, F, b, M, m⟩ := D.ex
  exact ⟨f, fd, ps, [], M, C8.fn0 F S len (hbody f), m, b, .nil⟩
end

/-- the names of the module that are still the built-in ones -/
structure Bt (mg : Str → Option Value) : Prop where
  isi : mg "isinstance" = none
  int : mg "int" = none
  bool : mg "bool" = none
  str : mg "str" = none
  tuple : mg "tuple" = none
  list : mg "list" = none
  len : mg "len" = none
  all : mg "all" = none
  sum : mg "sum" = none
  max : mg "max" = none
  min : mg "min" = none
  range : mg "range" = none
  enum : mg "enumerate" = none

/-! ### heaps -/
theorem same_new {H : Hp} {p : Addr} (h : H p = none) (o : HO) : Same H (upd H p o) := fun b u q => by
  rw [upd_ne (ne_of_none q h)]
  exact q
/-- the tuples are kept -/
def TK (H H' : Hp) : Prop := ∀ b xs, H b = some (.tup xs) → H' b = some (.tup xs)
theorem TK.refl (H : Hp) : TK H H := fun _ _ h => h
theorem TK.trans {H H1 H2 : Hp} (a : TK H H1) (b : TK H1 H2) : TK H H2 := fun c o h => b c o (a c o h)
theorem TK.of {H H' : Hp} (h : Same H H') : TK H H' := fun b xs q => h b _ q
/-- all but what stands at a is kept -/
def But (a : Addr) (H H' : Hp) : Prop := ∀ b o, H b = some o → b ≠ a → H' b = some o
theorem But.refl (a : Addr) (H : Hp) : But a H H := fun _ _ h _ => h
theorem But.trans {a : Addr} {H H1 H2 : Hp} (x : But a H H1) (y : But a H1 H2) : But a H H2 := fun c o h n => y c o (x c o h n) n
theorem But.of {a : Addr} {H H' : Hp} (h : Same H H') : But a H H' := fun b o q _ => h b o q
theorem But.upd {a : Addr} {H : Hp} (o : HO) : But a H (L2.upd H a o) := fun b u q n => by
  rw [upd_ne n]
  exact q

/-- a piece -/
def PcAt (H : Hp) (v : V) (p : Pc) : Prop := ∃ a : Addr, v = .ref a ∧ H a = some (.tup [.int (p.b : Int), .int (p.s : Int), .int (p.e : Int)])
/-- a node -/
def NodeAt (H : Hp) : V → Tr → Prop
  | v, .nil => v = .non
  | v, .node l p r => ∃ (a : Addr) (vl vp vr : V), v = .ref a ∧ H a = some (.tup [vl, vp, vr, .int ((Tr.node l p r).ht : Int), .int ((Tr.node l p r).sz : Int), .int ((Tr.node l p r).en : Int)]) ∧
      NodeAt H vl l ∧ PcAt H vp p ∧ NodeAt H vr r
theorem PcAt.mono {H H' : Hp} {v : V} {p : Pc} (k : TK H H') (h : PcAt H v p) : PcAt H' v p := by
  obtain ⟨a, e, q⟩ := h
  exact ⟨a, e, k _ _ q⟩
theorem NodeAt.mono {H H' : Hp} (k : TK H H') : ∀ {t : Tr} {v : V}, NodeAt H v t → NodeAt H' v t
  | .nil, _, h => h
  | .node l p r, _, h => by
    obtain ⟨a, vl, vp, vr, e, q, h1, h2, h3⟩ := h
    exact ⟨a, vl, vp, vr, e, k _ _ q, NodeAt.mono k h1, PcAt.mono k h2, NodeAt.mono k h3⟩
theorem NodeAt.nil_iff {H : Hp} {t : Tr} {v : V} (h : NodeAt H v t) : decide (v = .non) = true ↔ t = .nil := by
  cases t with
  | nil =>
    have e : v = .non := h
    subst e
    exact ⟨fun _ => rfl, fun _ => decide_eq_true rfl⟩
  | node l p r =>
    obtain ⟨a, vl, vp, vr, e, _⟩ := h
    subst e
    exact ⟨fun z => (nomatch (of_decide_eq_true z : V.ref a = V.non)), fun z => nomatch z⟩

/-! ### words for built-ins -/
section
variable {X : Cx} {pos : Pos}
theorem pe_ty {n : String} {x : Str} (hg : Gl X x) (hm : X.mg x = none) (hv : bootBuiltins x = some (.type n)) (hn : x ≠ "__name__" := by decide) (hd : (x == ("__debug__" : Str)) = false := by decide) : PE X (.Name x pos) (tC (.ty n)) :=
  pe_bltn hg hm hv rfl hn hd
end
section
variable {K : PySem.W.Frag} {H : Hp} {Q : VK}
theorem isi_b {x : V} {a b : String} {r : Bool} (ty : TyOf K H x (.type a)) (h : kitB a b = some r) (q : Q (.bl r) H) : rIsi K [x, .ty b] H Q :=
  ⟨x, .ty b, .type a, .type b, r, rfl, .ty b, .base ty, kit_ty h, q⟩
theorem k_int_int : kitB "int" "int" = some true := by decide +kernel
theorem k_int_bool : kitB "int" "bool" = some false := by decide +kernel
theorem k_str_str : kitB "str" "str" = some true := by decide +kernel
theorem k_int_str : kitB "int" "str" = some false := by decide +kernel
theorem k_tup_tup : kitB "tuple" "tuple" = some true := by decide +kernel
theorem k_list_list : kitB "list" "list" = some true := by decide +kernel
end
theorem nl_S : ("\n" : Str) = S [10] := by decide +kernel
theorem em_S : ("" : Str) = S [] := by decide +kernel
theorem keep_S : ("keep" : Str) = S [107, 101, 101, 112] := by decide +kernel
theorem sz_le {n : Nat} (h : n ≤ 100000) : n ≤ sizeLine := Nat.le_trans h (by decide)
theorem S_le {l : List Nat} (h : l.length ≤ 100000) : (S l).length ≤ sizeLine := by
  rw [S_len]
  exact sz_le h
theorem cnt10 (l : List Nat) : Txt.count (S l) "\n" = ((l.count 10 : Nat) : Int) := by
  rw [nl_S]
  have h := PyProof.Rows.count_cnt (S l) 10
  refine h.trans ?_
  exact cntEq l
where cntEq : ∀ l : List Nat, PyProof.Rows.cnt 10 l = ((l.count 10 : Nat) : Int)
  | [] => rfl
  | c :: r => by
    rw [PyProof.Rows.cnt_cons, cntEq r]
    by_cases h : c = 10
    · subst h
      rw [if_pos rfl, List.count_cons_self]
      omega
    · rw [if_neg h, List.count_cons_of_ne h]
      omega
theorem jn_joinL : ∀ ls : List (List Nat), TL.joinL [10] ls = jn ls
  | [] => rfl
  | [x] => rfl
  | x :: y :: r => by
    have ih := jn_joinL (y :: r)
    show x ++ ([10] ++ TL.joinL [10] (y :: r)) = x ++ 10 :: jn (y :: r)
    rw [ih]
    rfl
theorem split10 (l : List Nat) : Txt.split (S l) "\n" = (lns l).map S := by
  rw [nl_S, split_S (by simp) (by decide)]
  congr 1
  have h := TL.spl_join (s := 10) (S := []) (parts := lns l) (lns_ne l) (lns_free l)
  rw [jn_joinL, lns_jn] at h
  exact h
theorem join10 (ls : List (List Nat)) : Txt.join "\n" (ls.map S) = S (jn ls) := by
  rw [nl_S, join_S, jn_joinL]
/-- a slice of a text -/
theorem cut_S {l : List Nat} {i j : Int} (h0 : 0 ≤ i) (h1 : 0 ≤ j) : cutS (S l) (some i) (some j) = S (sub i j l) := by
  have e1 : HT.sIx (S l).length 0 (some i) = min i.toNat l.length := by
    rw [S_len]
    show (if i < 0 then (i + (l.length : Int)).toNat else min i.toNat l.length) = _
    rw [if_neg (by omega)]
  have e2 : HT.sIx (S l).length (S l).length (some j) = min j.toNat l.length := by
    rw [S_len]
    show (if j < 0 then (j + (l.length : Int)).toNat else min j.toNat l.length) = _
    rw [if_neg (by omega)]
  unfold cutS
  rw [e1, e2]
  show S ((l.drop (min i.toNat l.length)).take (min j.toNat l.length - min i.toNat l.length)) = S ((l.drop i.toNat).take (j - i).toNat)
  congr 1
  by_cases hi : i.toNat ≤ l.length
  · rw [Nat.min_eq_left hi]
    by_cases hj : j.toNat ≤ l.length
    · rw [Nat.min_eq_left hj]
      congr 1
      omega
    · have e : min j.toNat l.length = l.length := by omega
      rw [e, List.take_of_length_le (by rw [List.length_drop]; omega), List.take_of_length_le (by rw [List.length_drop]; omega)]
  · have e : min i.toNat l.length = l.length := by omega
    rw [e, List.drop_eq_nil_of_le (Nat.le_refl _), List.drop_eq_nil_of_le (show l.length ≤ i.toNat by omega), List.take_nil, List.take_nil]
theorem cutV_take {xs : List V} {j : Nat} (h : j ≤ xs.length) : cutV xs none (some (j : Int)) = xs.take j := by
  unfold cutV
  rw [HT.sIx_none, HT.sIx_nat, Nat.min_eq_left h, List.drop_zero, Nat.sub_zero]
end Ink
end
section
namespace Ink
open PySem PySem.Spec PyProof.Rows L2 SX
section
variable {P : Program} {w : World} {K : PySem.W.Frag} {mg : Str → Option Value} {base : Heap} {k : Nat}

/-! ### height_of, size_of, ends_of -/
def spGet (g : Tr → Nat) : Sp := fun vs H Q _ => ∃ (v : V) (t : Tr), vs = [v] ∧ NodeAt H v t ∧ Q (.int (g t : Int)) H
theorem scHeight : FnScope ["node"] ["node"] (C8.fnScope (top 18)) := ⟨rfl, rfl, rfl, by decide +kernel, rfl, by decide +kernel, by decide +kernel⟩
theorem scSize : FnScope ["node"] ["node"] (C8.fnScope (top 19)) := ⟨rfl, rfl, rfl, by decide +kernel, rfl, by decide +kernel, by decide +kernel⟩
theorem scEnds : FnScope ["node"] ["node"] (C8.fnScope (top 21)) := ⟨rfl, rfl, rfl, by decide +kernel, rfl, by decide +kernel, by decide +kernel⟩
theorem ok_height (D : Df K mg "height_of" "height_of" (top 18) ["node"]) : C8.Cal P w K mg base (k + 1) "height_of" (spGet Tr.ht) [] := by
  refine D.cal scHeight (fun vs H Q E h => ?_) (fun f cdv A outer s H vs Q E hr h => ?_)
  · obtain ⟨v, t, rfl, _⟩ := h
    rfl
  · obtain ⟨v, t, rfl, hn, q⟩ := h
    refine ⟨_, pss_one (ps_ret (pe_ifExp (pt_cmp (pc_isN (pv 0))) pe_int (pe_ix ix_tup (pv 0) pe_int (fun _ _ => rfl)))), ?_⟩
    refine ⟨v, rfl, _, rfl, ?_⟩
    cases t with
    | nil =>
      obtain rfl : v = .non := hn
      exact iteT q
    | node l p r =>
      obtain ⟨a, vl, vp, vr, rfl, ha, _⟩ := hn
      exact iteF ⟨_, rfl, a, _, 3, _, rfl, rfl, SqT.of ha, rfl, q⟩
theorem ok_size (D : Df K mg "size_of_nodes" "size_of" (top 19) ["node"]) : C8.Cal P w K mg base (k + 1) "size_of_nodes" (spGet Tr.sz) [] := by
  refine D.cal scSize (fun vs H Q E h => ?_) (fun f cdv A outer s H vs Q E hr h => ?_)
  · obtain ⟨v, t, rfl, _⟩ := h
    rfl
  · obtain ⟨v, t, rfl, hn, q⟩ := h
    refine ⟨_, pss_one (ps_ret (pe_ifExp (pt_cmp (pc_isN (pv 0))) pe_int (pe_ix ix_tup (pv 0) pe_int (fun _ _ => rfl)))), ?_⟩
    refine ⟨v, rfl, _, rfl, ?_⟩
    cases t with
    | nil =>
      obtain rfl : v = .non := hn
      exact iteT q
    | node l p r =>
      obtain ⟨a, vl, vp, vr, rfl, ha, _⟩ := hn
      exact iteF ⟨_, rfl, a, _, 4, _, rfl, rfl, SqT.of ha, rfl, q⟩
theorem ok_ends (D : Df K mg "ends_of" "ends_of" (top 21) ["node"]) : C8.Cal P w K mg base (k + 1) "ends_of" (spGet Tr.en) [] := by
  refine D.cal scEnds (fun vs H Q E h => ?_) (fun f cdv A outer s H vs Q E hr h => ?_)
  · obtain ⟨v, t, rfl, _⟩ := h
    rfl
  · obtain ⟨v, t, rfl, hn, q⟩ := h
    refine ⟨_, pss_one (ps_ret (pe_ifExp (pt_cmp (pc_isN (pv 0))) pe_int (pe_ix ix_tup (pv 0) pe_int (fun _ _ => rfl)))), ?_⟩
    refine ⟨v, rfl, _, rfl, ?_⟩
    cases t with
    | nil =>
      obtain rfl : v = .non := hn
      exact iteT q
    | node l p r =>
      obtain ⟨a, vl, vp, vr, rfl, ha, _⟩ := hn
      exact iteF ⟨_, rfl, a, _, 5, _, rfl, rfl, SqT.of ha, rfl, q⟩

/-! ### made -/
/-- the facts about a built tree's node: a new tuple -/
def spMade : Sp := fun vs H Q _ => ∃ (vl vp vr : V) (l r : Tr) (p : Pc), vs = [vl, vp, vr] ∧ NodeAt H vl l ∧ PcAt H vp p ∧ NodeAt H vr r ∧ ∀ v H', Same H H' → NodeAt H' v (.node l p r) → Q v H'
theorem scMade : FnScope ["left", "piece", "right", "height", "size"] ["left", "piece", "right"] (C8.fnScope (top 22)) := ⟨rfl, rfl, rfl, by decide +kernel, rfl, by decide +kernel, by decide +kernel⟩
theorem ok_made (D : Df K mg "made" "made" (top 22) ["left", "piece", "right"]) (B : Bt mg) (Gh : C8.Cal P w K mg base 1 "height_of" (spGet Tr.ht) []) (Gs : C8.Cal P w K mg base 1 "size_of_nodes" (spGet Tr.sz) []) (Ge : C8.Cal P w K mg base 1 "ends_of" (spGet Tr.en) []) :
    C8.Cal P w K mg base 2 "made" spMade [] := by
  refine D.cal scMade (fun vs H Q E h => ?_) (fun f cdv A outer s H vs Q E hr h => ?_)
  · obtain ⟨_, _, _, _, _, _, rfl, _⟩ := h
    rfl
  · obtain ⟨vl, vp, vr, l, r, p, rfl, hl, hp, hR, q⟩ := h
    refine ⟨_, pss_cons (ps_set (i := 3) scMade.nd rfl (Or.inl rfl) (pe_op op_add pe_int (pe_callB (call_max2 rfl) (by rfl) B.max boot_max (pa_cons (C8.pe_c Gh hr (by decide) (by rfl) (pa_cons (pv 0) pa_nil)) (pa_cons (C8.pe_c Gh hr (by decide) (by rfl) (pa_cons (pv 2) pa_nil)) pa_nil)))))
      (pss_cons (ps_set (i := 4) scMade.nd rfl (Or.inl rfl) (pe_op op_add (pe_op op_add (C8.pe_c Gs hr (by decide) (by rfl) (pa_cons (pv 0) pa_nil)) (pe_ix ix_tup (pv 1) pe_int (fun _ _ => rfl))) (C8.pe_c Gs hr (by decide) (by rfl) (pa_cons (pv 2) pa_nil))))
      (pss_one (ps_ret (pe_tup (pa_cons (pv 0) (pa_cons (pv 1) (pa_cons (pv 2) (pa_cons (pv 3) (pa_cons (pv 4) (pa_cons (pe_op op_add (pe_op op_add (C8.pe_c Ge hr (by decide) (by rfl) (pa_cons (pv 0) pa_nil)) (pe_ix ix_tup (pv 1) pe_int (fun _ _ => rfl))) (C8.pe_c Ge hr (by decide) (by rfl) (pa_cons (pv 2) pa_nil))) pa_nil))))))))))
      , ?_⟩
    obtain ⟨pa, rfl, hpa⟩ := hp
    -- height
    refine ⟨vl, rfl, vl, l, rfl, hl, vr, rfl, vr, r, rfl, hR, _, _, rfl, 1, _, rfl, rfl, ?_⟩
    -- size
    refine ⟨vl, rfl, vl, l, rfl, hl, _, rfl, pa, _, 1, _, rfl, rfl, SqT.of hpa, rfl, _, _, rfl, rfl, vr, rfl, vr, r, rfl, hR, _, _, rfl, rfl, ?_⟩
    -- the tuple
    refine ⟨vl, rfl, _, rfl, vr, rfl, _, rfl, _, rfl, vl, rfl, vl, l, rfl, hl, _, rfl, pa, _, 2, _, rfl, rfl, SqT.of hpa, rfl, _, _, rfl, rfl, vr, rfl, vr, r, rfl, hR, _, _, rfl, rfl, (by show 6 ≤ sizeLine; decide), fun t ht => ?_⟩
    have s1 := same_new ht (HO.tup [vl, .ref pa, vr, .int (1 + if (r.ht : Int) > (l.ht : Int) then (r.ht : Int) else (l.ht : Int)), .int ((l.sz : Int) + (p.s : Int) + (r.sz : Int)), .int ((l.en : Int) + (p.e : Int) + (r.en : Int))])
    refine q _ _ s1 ⟨t, vl, .ref pa, vr, rfl, ?_, NodeAt.mono (TK.of s1) hl, ⟨pa, rfl, s1 _ _ hpa⟩, NodeAt.mono (TK.of s1) hR⟩
    rw [upd_same]
    have e1 : (1 + if (r.ht : Int) > (l.ht : Int) then (r.ht : Int) else (l.ht : Int)) = ((Tr.node l p r).ht : Int) := by
      show _ = ((1 + (if r.ht > l.ht then r.ht else l.ht) : Nat) : Int)
      by_cases h : r.ht > l.ht
      · rw [if_pos h, if_pos (by omega)]
        omega
      · rw [if_neg h, if_neg (by omega)]
        omega
    have e2 : ((l.sz : Int) + (p.s : Int) + (r.sz : Int)) = ((Tr.node l p r).sz : Int) := by
      show _ = ((l.sz + p.s + r.sz : Nat) : Int)
      omega
    have e3 : ((l.en : Int) + (p.e : Int) + (r.en : Int)) = ((Tr.node l p r).en : Int) := by
      show _ = ((l.en + p.e + r.en : Nat) : Int)
      omega
    rw [← e1, ← e2, ← e3]
end
end Ink
end
section
namespace Ink
open PySem PySem.Spec PyProof.Rows L2 SX
section
variable {P : Program} {w : World} {K : PySem.W.Frag} {mg : Str → Option Value} {base : Heap} {k : Nat}

/-! ### turned -/
def spTurned : Sp := fun vs H Q _ => ∃ (vl vp vr : V) (l r : Tr) (p : Pc), vs = [vl, vp, vr] ∧ NodeAt H vl l ∧ PcAt H vp p ∧ NodeAt H vr r ∧ ∀ v H' t, Same H H' → NodeAt H' v t → t.toL = l.toL ++ p :: r.toL → Q v H'
theorem scTurned : FnScope ["left", "piece", "right", "inner"] ["left", "piece", "right"] (C8.fnScope (top 23)) := ⟨rfl, rfl, rfl, by decide +kernel, rfl, by decide +kernel, by decide +kernel⟩
theorem ok_turned (D : Df K mg "turned" "turned" (top 23) ["left", "piece", "right"]) (Gh : C8.Cal P w K mg base 1 "height_of" (spGet Tr.ht) []) (Gm : C8.Cal P w K mg base 2 "made" spMade []) :
    C8.Cal P w K mg base 3 "turned" spTurned [] := by
  refine D.cal scTurned (fun vs H Q E h => ?_) (fun f cdv A outer s H vs Q E hr h => ?_)
  · obtain ⟨_, _, _, _, _, _, rfl, _⟩ := h
    rfl
  · obtain ⟨vl, vp, vr, l, r, p, rfl, hl, hp, hR, q⟩ := h
    refine ⟨_, pss_cons (ps_if (pt_cmpR op_gt (C8.pe_c Gh hr (by decide) (by rfl) (pa_cons (pv 0) pa_nil)) (pe_op op_add (C8.pe_c Gh hr (by decide) (by rfl) (pa_cons (pv 2) pa_nil)) pe_int) (nomark _))
        (pss_cons (ps_if (pt_cmpR op_ge (C8.pe_c Gh hr (by decide) (by rfl) (pa_cons (pe_ix ix_tup (pv 0) pe_int (fun _ _ => rfl)) pa_nil)) (C8.pe_c Gh hr (by decide) (by rfl) (pa_cons (pe_ix ix_tup (pv 0) pe_int (fun _ _ => rfl)) pa_nil)) (nomark _))
          (pss_one (ps_ret (C8.pe_c Gm hr (by decide) (by rfl) (pa_cons (pe_ix ix_tup (pv 0) pe_int (fun _ _ => rfl)) (pa_cons (pe_ix ix_tup (pv 0) pe_int (fun _ _ => rfl)) (pa_cons (C8.pe_c Gm hr (by decide) (by rfl) (pa_cons (pe_ix ix_tup (pv 0) pe_int (fun _ _ => rfl)) (pa_cons (pv 1) (pa_cons (pv 2) pa_nil)))) pa_nil)))))) pss_nil)
        (pss_cons (ps_set (i := 3) scTurned.nd rfl (Or.inl rfl) (pe_ix ix_tup (pv 0) pe_int (fun _ _ => rfl)))
        (pss_one (ps_ret (C8.pe_c Gm hr (by decide) (by rfl) (pa_cons (C8.pe_c Gm hr (by decide) (by rfl) (pa_cons (pe_ix ix_tup (pv 0) pe_int (fun _ _ => rfl)) (pa_cons (pe_ix ix_tup (pv 0) pe_int (fun _ _ => rfl)) (pa_cons (pe_ix ix_tup (pv 3) pe_int (fun _ _ => rfl)) pa_nil))))
          (pa_cons (pe_ix ix_tup (pv 3) pe_int (fun _ _ => rfl)) (pa_cons (C8.pe_c Gm hr (by decide) (by rfl) (pa_cons (pe_ix ix_tup (pv 3) pe_int (fun _ _ => rfl)) (pa_cons (pv 1) (pa_cons (pv 2) pa_nil)))) pa_nil))))))))
        pss_nil)
      (pss_cons (ps_if (pt_cmpR op_gt (C8.pe_c Gh hr (by decide) (by rfl) (pa_cons (pv 2) pa_nil)) (pe_op op_add (C8.pe_c Gh hr (by decide) (by rfl) (pa_cons (pv 0) pa_nil)) pe_int) (nomark _))
        (pss_cons (ps_if (pt_cmpR op_ge (C8.pe_c Gh hr (by decide) (by rfl) (pa_cons (pe_ix ix_tup (pv 2) pe_int (fun _ _ => rfl)) pa_nil)) (C8.pe_c Gh hr (by decide) (by rfl) (pa_cons (pe_ix ix_tup (pv 2) pe_int (fun _ _ => rfl)) pa_nil)) (nomark _))
          (pss_one (ps_ret (C8.pe_c Gm hr (by decide) (by rfl) (pa_cons (C8.pe_c Gm hr (by decide) (by rfl) (pa_cons (pv 0) (pa_cons (pv 1) (pa_cons (pe_ix ix_tup (pv 2) pe_int (fun _ _ => rfl)) pa_nil)))) (pa_cons (pe_ix ix_tup (pv 2) pe_int (fun _ _ => rfl)) (pa_cons (pe_ix ix_tup (pv 2) pe_int (fun _ _ => rfl)) pa_nil)))))) pss_nil)
        (pss_cons (ps_set (i := 3) scTurned.nd rfl (Or.inl rfl) (pe_ix ix_tup (pv 2) pe_int (fun _ _ => rfl)))
        (pss_one (ps_ret (C8.pe_c Gm hr (by decide) (by rfl) (pa_cons (C8.pe_c Gm hr (by decide) (by rfl) (pa_cons (pv 0) (pa_cons (pv 1) (pa_cons (pe_ix ix_tup (pv 3) pe_int (fun _ _ => rfl)) pa_nil))))
          (pa_cons (pe_ix ix_tup (pv 3) pe_int (fun _ _ => rfl)) (pa_cons (C8.pe_c Gm hr (by decide) (by rfl) (pa_cons (pe_ix ix_tup (pv 3) pe_int (fun _ _ => rfl)) (pa_cons (pe_ix ix_tup (pv 2) pe_int (fun _ _ => rfl)) (pa_cons (pe_ix ix_tup (pv 2) pe_int (fun _ _ => rfl)) pa_nil)))) pa_nil))))))))
        pss_nil)
      (pss_one (ps_ret (C8.pe_c Gm hr (by decide) (by rfl) (pa_cons (pv 0) (pa_cons (pv 1) (pa_cons (pv 2) pa_nil))))))), ?_⟩
    refine ⟨vl, rfl, vl, l, rfl, hl, vr, rfl, vr, r, rfl, hR, _, _, rfl, rfl, _, _, rfl, rfl, _, rfl, ite2 (fun c => ?_) (fun c => ?_)⟩
    · have c' : (r.ht : Int) + 1 < (l.ht : Int) := of_decide_eq_true c
      obtain ⟨ll, lp, lr, rfl⟩ := ht_pos (t := l) (by omega)
      obtain ⟨a, vll, vlp, vlr, rfl, ha, hll, hlp, hlr⟩ := hl
      refine ⟨_, rfl, a, _, 0, _, rfl, rfl, SqT.of ha, rfl, vll, ll, rfl, hll, _, rfl, a, _, 2, _, rfl, rfl, SqT.of ha, rfl, vlr, lr, rfl, hlr, _, _, rfl, rfl, _, rfl, ite2 (fun c2 => ?_) (fun c2 => ?_)⟩
      · refine ⟨_, rfl, a, _, 0, _, rfl, rfl, SqT.of ha, rfl, _, rfl, a, _, 1, _, rfl, rfl, SqT.of ha, rfl, _, rfl, a, _, 2, _, rfl, rfl, SqT.of ha, rfl, vp, rfl, vr, rfl, vlr, vp, vr, lr, r, p, rfl, hlr, hp, hR, fun v1 H1 s1 n1 => ?_⟩
        refine ⟨vll, vlp, v1, ll, _, lp, rfl, hll.mono (TK.of s1), hlp.mono (TK.of s1), n1, fun v2 H2 s2 n2 => q _ _ _ (s1.trans s2) n2 ?_⟩
        simp [Tr.toL]
      · have c2' : ¬ (lr.ht : Int) ≤ (ll.ht : Int) := of_decide_eq_false (Bool.eq_false_iff.mpr c2)
        obtain ⟨il, ip, ir, rfl⟩ := ht_pos (t := lr) (by omega)
        obtain ⟨b, vil, vip, vir, rfl, hb, hil, hip, hir⟩ := hlr
        refine ⟨_, rfl, a, _, 2, _, rfl, rfl, SqT.of ha, rfl, ?_⟩
        refine ⟨_, rfl, a, _, 0, _, rfl, rfl, SqT.of ha, rfl, _, rfl, a, _, 1, _, rfl, rfl, SqT.of ha, rfl, _, rfl, b, _, 0, _, rfl, rfl, SqT.of hb, rfl, vll, vlp, vil, ll, il, lp, rfl, hll, hlp, hil, fun v1 H1 s1 n1 => ?_⟩
        refine ⟨_, rfl, b, _, 1, _, rfl, rfl, SqT.of (s1 _ _ hb), rfl, _, rfl, b, _, 2, _, rfl, rfl, SqT.of (s1 _ _ hb), rfl, vp, rfl, vr, rfl, vir, vp, vr, ir, r, p, rfl, hir.mono (TK.of s1), hp.mono (TK.of s1), hR.mono (TK.of s1), fun v2 H2 s2 n2 => ?_⟩
        refine ⟨v1, vip, v2, _, _, ip, rfl, n1.mono (TK.of s2), hip.mono (TK.of (s1.trans s2)), n2, fun v3 H3 s3 n3 => q _ _ _ ((s1.trans s2).trans s3) n3 ?_⟩
        simp [Tr.toL]
    · refine ⟨vr, rfl, vr, r, rfl, hR, vl, rfl, vl, l, rfl, hl, _, _, rfl, rfl, _, _, rfl, rfl, _, rfl, ite2 (fun c3 => ?_) (fun c3 => ?_)⟩
      · have c' : (l.ht : Int) + 1 < (r.ht : Int) := of_decide_eq_true c3
        obtain ⟨rl, rp, rr, rfl⟩ := ht_pos (t := r) (by omega)
        obtain ⟨a, vrl, vrp, vrr, rfl, ha, hrl, hrp, hrr⟩ := hR
        refine ⟨_, rfl, a, _, 2, _, rfl, rfl, SqT.of ha, rfl, vrr, rr, rfl, hrr, _, rfl, a, _, 0, _, rfl, rfl, SqT.of ha, rfl, vrl, rl, rfl, hrl, _, _, rfl, rfl, _, rfl, ite2 (fun c2 => ?_) (fun c2 => ?_)⟩
        · refine ⟨vl, rfl, vp, rfl, _, rfl, a, _, 0, _, rfl, rfl, SqT.of ha, rfl, vl, vp, vrl, l, rl, p, rfl, hl, hp, hrl, fun v1 H1 s1 n1 => ?_⟩
          refine ⟨_, rfl, a, _, 1, _, rfl, rfl, SqT.of (s1 _ _ ha), rfl, _, rfl, a, _, 2, _, rfl, rfl, SqT.of (s1 _ _ ha), rfl, v1, vrp, vrr, _, rr, rp, rfl, n1, hrp.mono (TK.of s1), hrr.mono (TK.of s1), fun v2 H2 s2 n2 => q _ _ _ (s1.trans s2) n2 ?_⟩
          simp [Tr.toL]
        · have c2' : ¬ (rl.ht : Int) ≤ (rr.ht : Int) := of_decide_eq_false (Bool.eq_false_iff.mpr c2)
          obtain ⟨il, ip, ir, rfl⟩ := ht_pos (t := rl) (by omega)
          obtain ⟨b, vil, vip, vir, rfl, hb, hil, hip, hir⟩ := hrl
          refine ⟨_, rfl, a, _, 0, _, rfl, rfl, SqT.of ha, rfl, ?_⟩
          refine ⟨vl, rfl, vp, rfl, _, rfl, b, _, 0, _, rfl, rfl, SqT.of hb, rfl, vl, vp, vil, l, il, p, rfl, hl, hp, hil, fun v1 H1 s1 n1 => ?_⟩
          refine ⟨_, rfl, b, _, 1, _, rfl, rfl, SqT.of (s1 _ _ hb), rfl, _, rfl, b, _, 2, _, rfl, rfl, SqT.of (s1 _ _ hb), rfl, _, rfl, a, _, 1, _, rfl, rfl, SqT.of (s1 _ _ ha), rfl, _, rfl, a, _, 2, _, rfl, rfl, SqT.of (s1 _ _ ha), rfl, vir, vrp, vrr, ir, rr, rp, rfl, hir.mono (TK.of s1), hrp.mono (TK.of s1), hrr.mono (TK.of s1), fun v2 H2 s2 n2 => ?_⟩
          refine ⟨v1, vip, v2, _, _, ip, rfl, n1.mono (TK.of s2), hip.mono (TK.of (s1.trans s2)), n2, fun v3 H3 s3 n3 => q _ _ _ ((s1.trans s2).trans s3) n3 ?_⟩
          simp [Tr.toL]
      · refine ⟨vl, rfl, vp, rfl, vr, rfl, vl, vp, vr, l, r, p, rfl, hl, hp, hR, fun v1 H1 s1 n1 => q _ _ _ s1 n1 rfl⟩

/-! ### joined -/
def spJoined (n : Nat) : Sp := fun vs H Q _ => ∃ (vl vp vr : V) (l r : Tr) (p : Pc), vs = [vl, vp, vr] ∧ NodeAt H vl l ∧ PcAt H vp p ∧ NodeAt H vr r ∧ l.cnt + r.cnt ≤ n ∧ ∀ v H' t, Same H H' → NodeAt H' v t → t.toL = l.toL ++ p :: r.toL → Q v H'
theorem scJoined : FnScope ["left", "piece", "right"] ["left", "piece", "right"] (C8.fnScope (top 24)) := ⟨rfl, rfl, rfl, by decide +kernel, rfl, by decide +kernel, by decide +kernel⟩
/-- a def that is asked nothing -/
theorem ok_joined (D : Df K mg "joined" "joined" (top 24) ["left", "piece", "right"]) (Gh : C8.Cal P w K mg base 1 "height_of" (spGet Tr.ht) []) (Gm : C8.Cal P w K mg base 2 "made" spMade []) (Gt : C8.Cal P w K mg base 3 "turned" spTurned []) :
    ∀ n : Nat, C8.Cal P w K mg base (n + 4) "joined" (spJoined n) []
  | 0 => by
    refine D.cal scJoined (fun vs H Q E h => ?_) (fun f cdv A outer s H vs Q E hr h => ?_)
    · obtain ⟨_, _, _, _, _, _, rfl, _⟩ := h
      rfl
    · obtain ⟨vl, vp, vr, l, r, p, rfl, hl, hp, hR, hn, q⟩ := h
      refine ⟨_, pss_cons (ps_if (pt_cmpR op_gt (C8.pe_c Gh hr (by decide) (by rfl) (pa_cons (pv 0) pa_nil)) (pe_op op_add (C8.pe_c Gh hr (by decide) (by rfl) (pa_cons (pv 2) pa_nil)) pe_int) (nomark _)) (pss_one ps_never) pss_nil)
        (pss_cons (ps_if (pt_cmpR op_gt (C8.pe_c Gh hr (by decide) (by rfl) (pa_cons (pv 2) pa_nil)) (pe_op op_add (C8.pe_c Gh hr (by decide) (by rfl) (pa_cons (pv 0) pa_nil)) pe_int) (nomark _)) (pss_one ps_never) pss_nil)
        (pss_one (ps_ret (C8.pe_c Gm hr (by decide) (by rfl) (pa_cons (pv 0) (pa_cons (pv 1) (pa_cons (pv 2) pa_nil))))))), ?_⟩
      have z1 : l.ht = 0 := by
        cases l with
        | nil => rfl
        | node a b c =>
          rw [cnt_node] at hn
          omega
      have z2 : r.ht = 0 := by
        cases r with
        | nil => rfl
        | node a b c =>
          rw [cnt_node] at hn
          omega
      refine ⟨vl, rfl, vl, l, rfl, hl, vr, rfl, vr, r, rfl, hR, _, _, rfl, rfl, _, _, rfl, rfl, _, rfl, ite2 (fun c => ?_) (fun c => ?_)⟩
      · have c' : (r.ht : Int) + 1 < (l.ht : Int) := of_decide_eq_true c
        omega
      · refine ⟨vr, rfl, vr, r, rfl, hR, vl, rfl, vl, l, rfl, hl, _, _, rfl, rfl, _, _, rfl, rfl, _, rfl, ite2 (fun c => ?_) (fun c => ?_)⟩
        · have c' : (l.ht : Int) + 1 < (r.ht : Int) := of_decide_eq_true c
          omega
        · refine ⟨vl, rfl, vp, rfl, vr, rfl, vl, vp, vr, l, r, p, rfl, hl, hp, hR, fun v1 H1 s1 n1 => q _ _ _ s1 n1 rfl⟩
  | n + 1 => by
    have ih := ok_joined D Gh Gm Gt n
    refine D.cal scJoined (fun vs H Q E h => ?_) (fun f cdv A outer s H vs Q E hr h => ?_)
    · obtain ⟨_, _, _, _, _, _, rfl, _⟩ := h
      rfl
    · obtain ⟨vl, vp, vr, l, r, p, rfl, hl, hp, hR, hn, q⟩ := h
      have ge1 : 1 ≤ n + 4 := by omega
      have ge2 : 2 ≤ n + 4 := by omega
      have ge3 : 3 ≤ n + 4 := by omega
      refine ⟨_, pss_cons (ps_if (pt_cmpR op_gt (C8.pe_c Gh hr ge1 (by rfl) (pa_cons (pv 0) pa_nil)) (pe_op op_add (C8.pe_c Gh hr ge1 (by rfl) (pa_cons (pv 2) pa_nil)) pe_int) (nomark _))
          (pss_one (ps_ret (C8.pe_c Gt hr ge3 (by rfl) (pa_cons (pe_ix ix_tup (pv 0) pe_int (fun _ _ => rfl)) (pa_cons (pe_ix ix_tup (pv 0) pe_int (fun _ _ => rfl)) (pa_cons (C8.pe_c ih hr (Nat.le_refl _) (by rfl) (pa_cons (pe_ix ix_tup (pv 0) pe_int (fun _ _ => rfl)) (pa_cons (pv 1) (pa_cons (pv 2) pa_nil)))) pa_nil)))))) pss_nil)
        (pss_cons (ps_if (pt_cmpR op_gt (C8.pe_c Gh hr ge1 (by rfl) (pa_cons (pv 2) pa_nil)) (pe_op op_add (C8.pe_c Gh hr ge1 (by rfl) (pa_cons (pv 0) pa_nil)) pe_int) (nomark _))
          (pss_one (ps_ret (C8.pe_c Gt hr ge3 (by rfl) (pa_cons (C8.pe_c ih hr (Nat.le_refl _) (by rfl) (pa_cons (pv 0) (pa_cons (pv 1) (pa_cons (pe_ix ix_tup (pv 2) pe_int (fun _ _ => rfl)) pa_nil)))) (pa_cons (pe_ix ix_tup (pv 2) pe_int (fun _ _ => rfl)) (pa_cons (pe_ix ix_tup (pv 2) pe_int (fun _ _ => rfl)) pa_nil)))))) pss_nil)
        (pss_one (ps_ret (C8.pe_c Gm hr ge2 (by rfl) (pa_cons (pv 0) (pa_cons (pv 1) (pa_cons (pv 2) pa_nil))))))), ?_⟩
      refine ⟨vl, rfl, vl, l, rfl, hl, vr, rfl, vr, r, rfl, hR, _, _, rfl, rfl, _, _, rfl, rfl, _, rfl, ite2 (fun c => ?_) (fun c => ?_)⟩
      · have c' : (r.ht : Int) + 1 < (l.ht : Int) := of_decide_eq_true c
        obtain ⟨ll, lp, lr, rfl⟩ := ht_pos (t := l) (by omega)
        obtain ⟨a, vll, vlp, vlr, rfl, ha, hll, hlp, hlr⟩ := hl
        rw [cnt_node] at hn
        refine ⟨_, rfl, a, _, 0, _, rfl, rfl, SqT.of ha, rfl, _, rfl, a, _, 1, _, rfl, rfl, SqT.of ha, rfl, _, rfl, a, _, 2, _, rfl, rfl, SqT.of ha, rfl, vp, rfl, vr, rfl, vlr, vp, vr, lr, r, p, rfl, hlr, hp, hR, by omega, fun v1 H1 t1 s1 n1 e1 => ?_⟩
        refine ⟨vll, vlp, v1, ll, t1, lp, rfl, hll.mono (TK.of s1), hlp.mono (TK.of s1), n1, fun v2 H2 t2 s2 n2 e2 => q _ _ _ (s1.trans s2) n2 ?_⟩
        rw [e2, e1]
        simp [Tr.toL]
      · refine ⟨vr, rfl, vr, r, rfl, hR, vl, rfl, vl, l, rfl, hl, _, _, rfl, rfl, _, _, rfl, rfl, _, rfl, ite2 (fun c => ?_) (fun c => ?_)⟩
        · have c' : (l.ht : Int) + 1 < (r.ht : Int) := of_decide_eq_true c
          obtain ⟨rl, rp, rr, rfl⟩ := ht_pos (t := r) (by omega)
          obtain ⟨a, vrl, vrp, vrr, rfl, ha, hrl, hrp, hrr⟩ := hR
          rw [cnt_node] at hn
          refine ⟨vl, rfl, vp, rfl, _, rfl, a, _, 0, _, rfl, rfl, SqT.of ha, rfl, vl, vp, vrl, l, rl, p, rfl, hl, hp, hrl, by omega, fun v1 H1 t1 s1 n1 e1 => ?_⟩
          refine ⟨_, rfl, a, _, 1, _, rfl, rfl, SqT.of (s1 _ _ ha), rfl, _, rfl, a, _, 2, _, rfl, rfl, SqT.of (s1 _ _ ha), rfl, v1, vrp, vrr, t1, rr, rp, rfl, n1, hrp.mono (TK.of s1), hrr.mono (TK.of s1), fun v2 H2 t2 s2 n2 e2 => q _ _ _ (s1.trans s2) n2 ?_⟩
          rw [e2, e1]
          simp [Tr.toL]
        · refine ⟨vl, rfl, vp, rfl, vr, rfl, vl, vp, vr, l, r, p, rfl, hl, hp, hR, fun v1 H1 s1 n1 => q _ _ _ s1 n1 rfl⟩
end
end Ink
end
section
namespace Ink
open PySem PySem.Spec PyProof.Rows L2 SX

/-! ### the signs -/
def SGL : List Nat := [32, 33, 34, 35, 36, 38, 39, 40, 41, 42, 43, 44, 45, 46, 47, 48, 49, 50, 51, 52, 53, 54, 55, 56, 57, 58, 59, 60, 61, 62, 63, 64, 65, 66, 67, 68, 69, 70, 71, 72, 73, 74, 75, 76, 77, 78, 79, 80, 81, 82, 83, 84, 85, 86, 87, 88, 89, 90, 91, 92, 93, 94, 95, 96, 97, 98, 99, 100, 101, 102, 103, 104, 105, 106, 107, 108, 109, 110, 111, 112, 113, 114, 115, 116, 117, 118, 119, 120, 121, 122, 123, 124, 125, 126, 10]
theorem sgl_all : ∀ c : Nat, c < 127 → okc c = decide (c ∈ SGL) := by decide +kernel
theorem sgl_of {c : Nat} (h : okc c = true) : c ∈ SGL := by
  have hlt : c < 127 := by
    unfold okc at h
    simp only [Bool.or_eq_true, Bool.and_eq_true, decide_eq_true_eq] at h
    omega
  rw [sgl_all c hlt] at h
  exact of_decide_eq_true h

/-! ### parts in the heap -/
def wordOf : Part → Str
  | .keep _ => "keep"
  | .cut _ => "cut"
  | .put _ => "put"
def thingOf : Part → V
  | .keep n => .int (n : Int)
  | .cut x => .str (S x)
  | .put x => .str (S x)
def psz : Part → Nat
  | .keep n => n
  | .cut x => x.length
  | .put x => x.length
def small : Part → Prop
  | .keep _ => True
  | .cut x => x.length ≤ 100000
  | .put x => x.length ≤ 100000
def PartAt (H : Hp) (v : V) (p : Part) : Prop := ∃ a : Addr, v = .ref a ∧ H a = some (.tup [.str (wordOf p), thingOf p])
theorem PartAt.mono {H H' : Hp} {v : V} {p : Part} (k : TK H H') (h : PartAt H v p) : PartAt H' v p := by
  obtain ⟨a, e, q⟩ := h
  exact ⟨a, e, k _ _ q⟩
structure PartsAt (H : Hp) (vs : List V) (cs : List Part) : Prop where
  len : vs.length = cs.length
  at_ : ∀ (i : Nat) (p : Part), cs[i]? = some p → ∃ v, vs[i]? = some v ∧ PartAt H v p
theorem PartsAt.mono {H H' : Hp} {vs : List V} {cs : List Part} (k : TK H H') (h : PartsAt H vs cs) : PartsAt H' vs cs :=
  ⟨h.len, fun i p e => let ⟨v, h1, h2⟩ := h.at_ i p e; ⟨v, h1, h2.mono k⟩⟩
theorem PartsAt.get {H : Hp} {vs : List V} {cs : List Part} (h : PartsAt H vs cs) {i : Nat} {v : V} (e : vs[i]? = some v) : ∃ p, cs[i]? = some p ∧ PartAt H v p := by
  have hi : i < vs.length := (List.getElem?_eq_some_iff.mp e).1
  have hc : i < cs.length := by
    rw [← h.len]
    exact hi
  obtain ⟨v', e', q⟩ := h.at_ i cs[i] (List.getElem?_eq_getElem hc)
  rw [e] at e'
  cases e'
  exact ⟨cs[i], List.getElem?_eq_getElem hc, q⟩
def ChAt (H : Hp) (a : Addr) (cs : List Part) : Prop := ∃ vs : List V, H a = some (.lst vs) ∧ PartsAt H vs cs
theorem ChAt.mono {H H' : Hp} {a : Addr} {cs : List Part} (k : Same H H') (h : ChAt H a cs) : ChAt H' a cs := by
  obtain ⟨vs, e, q⟩ := h
  exact ⟨vs, k _ _ e, q.mono (TK.of k)⟩
structure Sml (cs : List Part) : Prop where
  len : cs.length ≤ 1000
  all : ∀ p ∈ cs, small p

theorem str_ne {x y : Str} (h : ¬ x = y) : ¬ V.str x = V.str y := fun e => h (V.str.inj e)
theorem w_keep_put : ¬ V.str "keep" = V.str "put" := str_ne (by decide +kernel)
theorem w_keep_cut : ¬ V.str "keep" = V.str "cut" := str_ne (by decide +kernel)
theorem w_put_keep : ¬ V.str "put" = V.str "keep" := str_ne (by decide +kernel)
theorem w_put_cut : ¬ V.str "put" = V.str "cut" := str_ne (by decide +kernel)
theorem w_cut_keep : ¬ V.str "cut" = V.str "keep" := str_ne (by decide +kernel)
theorem w_cut_put : ¬ V.str "cut" = V.str "put" := str_ne (by decide +kernel)
theorem S_ne {x : List Nat} (h : x ≠ []) : ¬ V.str (S x) = V.str "" := str_ne fun e => h (S_inj (e.trans em_S))
theorem iteD {c A B : Prop} [Decidable c] (h : ¬ c) (b : B) : if decide c = true then A else B := by
  rw [decide_eq_false h]
  exact iteF b
theorem iteD' {c A B : Prop} [Decidable c] (h : c) (a : A) : if decide c = true then A else B := by
  rw [decide_eq_true h]
  exact iteT a
theorem iteN {c A B : Prop} [Decidable c] (h : ¬ c) (a : A) : if (!decide c) = true then A else B := by
  rw [decide_eq_false h]
  exact iteT a

section
variable {P : Program} {w : World} {K : PySem.W.Frag} {mg : Str → Option Value} {base : Heap} {k : Nat}

/-! ### is_whole -/
def spWhole : Sp := fun vs H Q _ => ∃ i : Int, vs = [.int i] ∧ Q (.bl true) H
theorem scWhole : FnScope ["thing"] ["thing"] (C8.fnScope (top 8)) := ⟨rfl, rfl, rfl, by decide +kernel, rfl, by decide +kernel, by decide +kernel⟩
theorem ok_whole (D : Df K mg "is_whole" "is_whole" (top 8) ["thing"]) (B : Bt mg) : C8.Cal P w K mg base (k + 1) "is_whole" spWhole [] := by
  refine D.cal scWhole (fun vs H Q E h => ?_) (fun f cdv A outer s H vs Q E hr h => ?_)
  · obtain ⟨_, rfl, _⟩ := h
    rfl
  · obtain ⟨i, rfl, q⟩ := h
    refine ⟨_, pss_one (ps_ret (pe_and (pe_callB call_isi (by rfl) B.isi boot_isinstance (pa_cons (pv 0) (pa_cons (pe_ty (by rfl) B.int boot_int) pa_nil)))
      (pe_one (pe_not (pe_callB call_isi (by rfl) B.isi boot_isinstance (pa_cons (pv 0) (pa_cons (pe_ty (by rfl) B.bool boot_bool) pa_nil))))))), ?_⟩
    exact ⟨_, rfl, _, _, _, _, _, rfl, .ty _, .base (.int _), kit_ty k_int_int, ⟨true, rfl, iteT ⟨_, rfl, _, _, _, _, _, rfl, .ty _, .base (.int _), kit_ty k_int_bool, ⟨false, rfl, q⟩⟩⟩⟩

/-! ### is_text, need_text -/
def spIsText : Sp := fun vs H Q _ => ∃ l : List Nat, vs = [.str (S l)] ∧ OkT l ∧ l.length ≤ 100000 ∧ ∀ H', Same H H' → Q (.bl true) H'
theorem scIsText : FnScope ["thing", "sign"] ["thing"] (C8.fnScope (top 9)) := ⟨rfl, rfl, rfl, by decide +kernel, rfl, by decide +kernel, by decide +kernel⟩
def Sgn (mg : Str → Option Value) : Prop := ∃ u, mg "SIGNS" = some u ∧ RelV (.str (S SGL)) u
theorem ok_isText (D : Df K mg "is_text" "is_text" (top 9) ["thing"]) (B : Bt mg) (G : Sgn mg) : C8.Cal P w K mg base (k + 1) "is_text" spIsText [] := by
  refine D.cal scIsText (fun vs H Q E h => ?_) (fun f cdv A outer s H vs Q E hr h => ?_)
  · obtain ⟨_, rfl, _⟩ := h
    rfl
  · obtain ⟨l, rfl, ok, hl, q⟩ := h
    refine ⟨_, pss_one (ps_ret (pe_and (pe_callB call_isi (by rfl) B.isi boot_isinstance (pa_cons (pv 0) (pa_cons (pe_ty (by rfl) B.str boot_str) pa_nil)))
      (pe_one (pe_callB (cr_all rfl) (by rfl) B.all boot_all (pa_cons (pe_lc (own := [("sign", 1)]) (g := gName 1) (tt := tYes) rfl scIsText.nd (pi_str (pv 0)) (blkOk_by (N := ["thing", "sign"]) (sc := C8.fnScope (top 9)) (by decide +kernel))
        (fun _ _ _ _ _ => pg_name (i := 1) scIsText.nd rfl (Or.inl rfl)) (fun _ _ _ _ _ => pts_nil) (fun _ _ _ _ _ => pe_cmpR op_in_sign (pv 1) (C8.pe_gc (by rfl) G) (by rfl))) pa_nil))))), ?_⟩
    refine ⟨_, rfl, _, _, _, _, _, rfl, .ty _, .base (.str _), kit_ty k_str_str, ⟨true, rfl, iteT ?_⟩⟩
    refine ⟨_, rfl, _, rfl, fun L hL => lc_it (walk_str (z := S l)) (fun i H' => Same H H' ∧ H' L = some (.lst ((List.replicate i true).map V.bl))) ⟨same_new hL _, upd_same⟩ (fun _ _ _ _ => trivial) ?_ ?_⟩
    · rintro i x H1 H2 hi ⟨s1, hb⟩ ⟨rfl, c, hc, rfl⟩
      refine ⟨rfl, _, rfl, c, S SGL, rfl, rfl, _, hb, ?_, ?_, ?_⟩
      · rw [List.length_map, List.length_replicate]
        have : i < l.length := by simpa using hi
        exact Nat.lt_of_lt_of_le (show i < 100000 by omega) (by decide)
      · exact fun b o e => by
          rw [upd_ne (ne_of_none e hL)]
          exact s1 b o e
      · rw [upd_same]
        have hm : c ∈ l := by
          have hc' : l[i]? = some c := by simpa using hc
          exact List.mem_of_getElem? hc'
        have e : decide (c ∈ (S SGL).cps.toList) = true := decide_eq_true (sgl_of (ok c hm))
        rw [e, List.replicate_succ', List.map_append]
        rfl
    · rintro H1 ⟨s1, hb⟩
      refine ⟨L, _, rfl, SqL.of hb, ?_⟩
      have e : ((List.replicate (S l).cps.size true).all id) = true := by
        rw [List.all_eq_true]
        intro b hb
        exact (List.mem_replicate.mp hb).2
      rw [e]
      exact q _ s1
def spNeedText : Sp := fun vs H Q _ => ∃ l : List Nat, vs = [.str (S l)] ∧ OkT l ∧ l.length ≤ 100000 ∧ ∀ H', Same H H' → Q .non H'
theorem scNeedText : FnScope ["thing"] ["thing"] (C8.fnScope (top 10)) := ⟨rfl, rfl, rfl, by decide +kernel, rfl, by decide +kernel, by decide +kernel⟩
theorem ok_needText (D : Df K mg "need_text" "need_text" (top 10) ["thing"]) (Gt : C8.Cal P w K mg base 1 "is_text" spIsText []) : C8.Cal P w K mg base 2 "need_text" spNeedText [] := by
  refine D.cal scNeedText (fun vs H Q E h => ?_) (fun f cdv A outer s H vs Q E hr h => ?_)
  · obtain ⟨_, rfl, _⟩ := h
    rfl
  · obtain ⟨l, rfl, ok, hl, q⟩ := h
    refine ⟨_, pss_one (ps_if (pt_not (pt_val (C8.pe_c Gt hr (by decide) (by rfl) (pa_cons (pv 0) pa_nil)))) (pss_one ps_never) pss_nil), ?_⟩
    exact ⟨_, rfl, l, rfl, ok, hl, fun H' s' => ⟨true, rfl, iteF (q _ s')⟩⟩

/-! ### is_part -/
def spIsPart : Sp := fun vs H Q _ => ∃ (v : V) (p : Part), vs = [v] ∧ PartAt H v p ∧ good p ∧ small p ∧ ∀ H', Same H H' → Q (.bl true) H'
theorem scIsPart : FnScope ["thing"] ["thing"] (C8.fnScope (top 12)) := ⟨rfl, rfl, rfl, by decide +kernel, rfl, by decide +kernel, by decide +kernel⟩
theorem ok_isPart (D : Df K mg "is_part" "is_part" (top 12) ["thing"]) (B : Bt mg) (Gw : C8.Cal P w K mg base 1 "is_whole" spWhole []) (Gt : C8.Cal P w K mg base 1 "is_text" spIsText []) : C8.Cal P w K mg base 2 "is_part" spIsPart [] := by
  refine D.cal scIsPart (fun vs H Q E h => ?_) (fun f cdv A outer s H vs Q E hr h => ?_)
  · obtain ⟨_, _, rfl, _⟩ := h
    rfl
  · obtain ⟨v, p, rfl, ⟨a, rfl, ha⟩, gd, sm, q⟩ := h
    refine ⟨_, pss_cons (ps_if (PW.pt (pw_or (pt_not (pt_val (pe_callB call_isi (by rfl) B.isi boot_isinstance (pa_cons (pv 0) (pa_cons (pe_ty (by rfl) B.tuple boot_tuple) pa_nil)))))
          (pw_or (pt_cmpR op_ne (pe_callB call_len_seq (by rfl) B.len PySem.boot_len (pa_cons (pv 0) pa_nil)) pe_int (nomark _))
          (pw_or1 (pt_not (pt_val (pe_callB call_isi (by rfl) B.isi boot_isinstance (pa_cons (pe_ix ix_tup (pv 0) pe_int (fun _ _ => rfl)) (pa_cons (pe_ty (by rfl) B.str boot_str) pa_nil)))))))))
        (pss_one (ps_ret pe_bl)) pss_nil)
      (pss_cons (ps_if (pt_cmpR op_eq (pe_ix ix_tup (pv 0) pe_int (fun _ _ => rfl)) pe_str (nomark _))
        (pss_one (ps_ret (pe_and (C8.pe_c Gw hr (by decide) (by rfl) (pa_cons (pe_ix ix_tup (pv 0) pe_int (fun _ _ => rfl)) pa_nil)) (pe_one (pe_cmpR op_gt (pe_ix ix_tup (pv 0) pe_int (fun _ _ => rfl)) pe_int (nomark _)))))) pss_nil)
      (pss_one (ps_ret (pe_and (pe_cmpR op_in_seq (pe_ix ix_tup (pv 0) pe_int (fun _ _ => rfl)) (pe_tup (pa_cons pe_str (pa_cons pe_str pa_nil))) (by rfl))
        (pe_and (pe_cmpR op_ne (pe_ix ix_tup (pv 0) pe_int (fun _ _ => rfl)) pe_str (nomark _)) (pe_one (C8.pe_c Gt hr (by decide) (by rfl) (pa_cons (pe_ix ix_tup (pv 0) pe_int (fun _ _ => rfl)) pa_nil)))))))), ?_⟩
    refine ⟨_, rfl, _, _, _, _, _, rfl, .ty _, .base (.tup ha), kit_ty k_tup_tup, ⟨true, rfl, iteF ?_⟩⟩
    refine ⟨_, rfl, a, _, rfl, .inr (SqT.of ha), rfl, _, rfl, iteNS rfl ?_⟩
    refine ⟨_, rfl, a, _, 0, _, rfl, rfl, SqT.of ha, rfl, _, _, _, _, _, rfl, .ty _, .base (.str _), kit_ty k_str_str, ⟨true, rfl, iteF ?_⟩⟩
    refine ⟨_, rfl, a, _, 0, _, rfl, rfl, SqT.of ha, rfl, rfl, _, rfl, ?_⟩
    cases p with
    | keep n =>
      refine iteD' rfl ?_
      have hn : 0 < n := gd
      refine ⟨_, rfl, a, _, 1, _, rfl, rfl, SqT.of ha, rfl, (n : Int), rfl, true, rfl, iteT ⟨_, rfl, a, _, 1, _, rfl, rfl, SqT.of ha, rfl, _, _, rfl, rfl, ?_⟩⟩
      show Q (.bl (decide ((0 : Int) < (n : Int)))) H
      rw [decide_eq_true (show (0 : Int) < (n : Int) by omega)]
      exact q _ (Same.refl _)
    | put x =>
      refine iteD w_put_keep ?_
      refine ⟨_, rfl, a, _, 0, _, rfl, rfl, SqT.of ha, rfl, (by show 2 ≤ sizeLine; decide), fun t ht => ?_⟩
      have s1 := same_new ht (HO.tup [V.str "put", V.str "cut"])
      refine ⟨t, _, rfl, .inr (SqT.of upd_same), rfl, rfl, true, ?_, iteT ?_⟩
      · show V.bl (inV (.str "put") [.str "put", .str "cut"]) = V.bl true
        decide +kernel
      refine ⟨_, rfl, a, _, 1, _, rfl, rfl, SqT.of (s1 _ _ ha), rfl, rfl, true, ?_, iteT ?_⟩
      · show V.bl (!decide (V.str (S x) = V.str "")) = V.bl true
        rw [decide_eq_false (S_ne gd.1)]
        rfl
      exact ⟨_, rfl, a, _, 1, _, rfl, rfl, SqT.of (s1 _ _ ha), rfl, x, rfl, gd.2, sm, fun H' s2 => q _ (s1.trans s2)⟩
    | cut x =>
      refine iteD w_cut_keep ?_
      refine ⟨_, rfl, a, _, 0, _, rfl, rfl, SqT.of ha, rfl, (by show 2 ≤ sizeLine; decide), fun t ht => ?_⟩
      have s1 := same_new ht (HO.tup [V.str "put", V.str "cut"])
      refine ⟨t, _, rfl, .inr (SqT.of upd_same), rfl, rfl, true, ?_, iteT ?_⟩
      · show V.bl (inV (.str "cut") [.str "put", .str "cut"]) = V.bl true
        decide +kernel
      refine ⟨_, rfl, a, _, 1, _, rfl, rfl, SqT.of (s1 _ _ ha), rfl, rfl, true, ?_, iteT ?_⟩
      · show V.bl (!decide (V.str (S x) = V.str "")) = V.bl true
        rw [decide_eq_false (S_ne gd.1)]
        rfl
      exact ⟨_, rfl, a, _, 1, _, rfl, rfl, SqT.of (s1 _ _ ha), rfl, x, rfl, gd.2, sm, fun H' s2 => q _ (s1.trans s2)⟩
end
end Ink
end
section
namespace Ink
open PySem PySem.Spec PyProof.Rows L2 SX

theorem adj_ne {a b : Part} (h : adj a b) : ¬ V.str (wordOf b) = V.str (wordOf a) := by
  cases a <;> cases b <;> first | exact h.elim | exact w_keep_put | exact w_keep_cut | exact w_put_keep | exact w_put_cut | exact w_cut_keep | exact w_cut_put
theorem adj_pc {a b : Part} (h : adj a b) (hb : V.str (wordOf b) = V.str "put") : ¬ V.str (wordOf a) = V.str "cut" := by
  cases a with
  | keep n => exact w_keep_cut
  | put x => exact w_put_cut
  | cut x =>
    cases b with
    | keep n => exact absurd hb w_keep_put
    | cut y => exact h.elim
    | put y => exact h.elim

/-- the sizes that are summed -/
def ovL : List Part → List Int
  | [] => []
  | .put _ :: r => ovL r
  | .keep n :: r => (n : Int) :: ovL r
  | .cut x :: r => (x.length : Int) :: ovL r
def gvL : List Part → List Int
  | [] => []
  | .cut _ :: r => gvL r
  | .keep n :: r => (n : Int) :: gvL r
  | .put x :: r => (x.length : Int) :: gvL r
theorem ovL_app : ∀ a b : List Part, ovL (a ++ b) = ovL a ++ ovL b
  | [], _ => rfl
  | .put _ :: r, b => ovL_app r b
  | .keep n :: r, b => congrArg (fun z => (n : Int) :: z) (ovL_app r b)
  | .cut x :: r, b => congrArg (fun z => (x.length : Int) :: z) (ovL_app r b)
theorem gvL_app : ∀ a b : List Part, gvL (a ++ b) = gvL a ++ gvL b
  | [], _ => rfl
  | .cut _ :: r, b => gvL_app r b
  | .keep n :: r, b => congrArg (fun z => (n : Int) :: z) (gvL_app r b)
  | .put x :: r, b => congrArg (fun z => (x.length : Int) :: z) (gvL_app r b)
theorem ovL_len : ∀ a : List Part, (ovL a).length ≤ a.length
  | [] => Nat.le_refl _
  | .put _ :: r => Nat.le_succ_of_le (ovL_len r)
  | .keep n :: r => Nat.succ_le_succ (ovL_len r)
  | .cut x :: r => Nat.succ_le_succ (ovL_len r)
theorem gvL_len : ∀ a : List Part, (gvL a).length ≤ a.length
  | [] => Nat.le_refl _
  | .cut _ :: r => Nat.le_succ_of_le (gvL_len r)
  | .keep n :: r => Nat.succ_le_succ (gvL_len r)
  | .put x :: r => Nat.succ_le_succ (gvL_len r)
theorem ovL_sum : ∀ a : List Part, (ovL a).sum = (over a : Int)
  | [] => rfl
  | .put _ :: r => by
    show (ovL r).sum = ((0 + over r : Nat) : Int)
    rw [ovL_sum r]
    omega
  | .keep n :: r => by
    show ((n : Int) :: ovL r).sum = ((n + over r : Nat) : Int)
    rw [List.sum_cons, ovL_sum r]
    omega
  | .cut x :: r => by
    show ((x.length : Int) :: ovL r).sum = ((x.length + over r : Nat) : Int)
    rw [List.sum_cons, ovL_sum r]
    omega
theorem take_snoc {α : Type} {l : List α} {i : Nat} {x : α} (h : l[i]? = some x) : l.take (i + 1) = l.take i ++ [x] := by
  rw [List.take_add_one, h]
  rfl

section
variable {P : Program} {w : World} {K : PySem.W.Frag} {mg : Str → Option Value} {base : Heap} {k : Nat}

/-! ### need_change -/
def spNeedChange : Sp := fun vs H Q _ => ∃ (a : Addr) (cs : List Part), vs = [.ref a] ∧ ChAt H a cs ∧ Neat cs ∧ Sml cs ∧ ∀ H', Same H H' → Q .non H'
theorem scNeedChange : FnScope ["change", "part", "place", "word"] ["change"] (C8.fnScope (top 13)) := ⟨rfl, rfl, rfl, by decide +kernel, rfl, by decide +kernel, by decide +kernel⟩
theorem ok_needChange (D : Df K mg "need_change" "need_change" (top 13) ["change"]) (B : Bt mg) (Gp : C8.Cal P w K mg base 2 "is_part" spIsPart []) : C8.Cal P w K mg base 3 "need_change" spNeedChange [] := by
  refine D.cal scNeedChange (fun vs H Q E h => ?_) (fun f cdv A outer s H vs Q E hr h => ?_)
  · obtain ⟨_, _, rfl, _⟩ := h
    rfl
  · obtain ⟨a, cs, rfl, ⟨vs, ha, hp⟩, nt, sm, q⟩ := h
    refine ⟨_, pss_cons (ps_if (PW.pt (pw_or (pt_not (pt_val (pe_callB call_isi (by rfl) B.isi boot_isinstance (pa_cons (pv 0) (pa_cons (pe_ty (by rfl) B.list boot_list) pa_nil)))))
          (pw_or1 (pt_not (pt_val (pe_callB (cr_all rfl) (by rfl) B.all boot_all (pa_cons (pe_lc (own := [("part", 1)]) (g := gName 1) (tt := tYes) rfl scNeedChange.nd (pi_list (pv 0)) (blkOk_by (N := ["change", "part", "place", "word"]) (sc := C8.fnScope (top 13)) (by decide +kernel))
            (fun _ _ _ _ _ => pg_name (i := 1) scNeedChange.nd rfl (Or.inl rfl)) (fun _ _ _ _ _ => pts_nil) (fun _ _ _ _ _ => C8.pe_c Gp hr (by decide) (by rfl) (pa_cons (pv 1) pa_nil))) pa_nil)))))))
        (pss_one ps_never) pss_nil)
      (pss_one (ps_for PassesOwn.never rfl (pi_range2 (by rfl) B.range (pa_cons pe_int (pa_cons (pe_callB call_len_seq (by rfl) B.len PySem.boot_len (pa_cons (pv 0) pa_nil)) pa_nil))) (pg_name (i := 2) scNeedChange.nd rfl (Or.inl rfl))
        (pss_cons (ps_set (i := 3) scNeedChange.nd rfl (Or.inl rfl) (pe_ix ix_tup (pe_ix ix_list (pv 0) (pv 2) (fun _ _ => rfl)) pe_int (fun _ _ => rfl)))
        (pss_one (ps_if (PW.pt (pw_or (pt_cmpR op_eq (pv 3) (pe_ix ix_tup (pe_ix ix_list (pv 0) (pe_op op_sub (pv 2) pe_int) (fun _ _ => rfl)) pe_int (fun _ _ => rfl)) (nomark _))
            (pw_or1 (PW.pt (pw_and (pt_cmpR op_eq (pv 3) pe_str (nomark _)) (pw_and1 (pt_cmpR op_eq (pe_ix ix_tup (pe_ix ix_list (pv 0) (pe_op op_sub (pv 2) pe_int) (fun _ _ => rfl)) pe_int (fun _ _ => rfl)) pe_str (nomark _))))))))
          (pss_one ps_never) pss_nil))))), ?_⟩
    refine ⟨_, rfl, _, _, _, _, _, rfl, .ty _, .base (.lst ha), kit_ty k_list_list, true, rfl, iteF ?_⟩
    refine ⟨_, rfl, a, rfl, ⟨_, SqL.of ha⟩, fun L hL => lc_it (walk_list (K := K) (a := a) (xs := vs)) (fun i H' => Same H H' ∧ H' L = some (.lst ((List.replicate i true).map V.bl))) ⟨same_new hL _, upd_same⟩ (fun i H' _ h => SqL.of (h.1 _ _ ha)) ?_ ?_⟩
    · rintro i x H1 H2 hi ⟨s1, hb⟩ ⟨rfl, hx⟩
      obtain ⟨p, hc, hpt⟩ := hp.get hx
      have hm := List.mem_of_getElem? hc
      refine ⟨rfl, _, rfl, x, p, rfl, hpt.mono (TK.of s1), nt.gd p hm, sm.all p hm, fun H3 s3 => ⟨_, s3 _ _ hb, ?_, ?_, ?_⟩⟩
      · rw [List.length_map, List.length_replicate]
        have h1 := sm.len
        rw [← hp.len] at h1
        exact small1000 (by omega)
      · exact fun b o e => by
          rw [upd_ne (ne_of_none e hL)]
          exact s3 _ _ (s1 b o e)
      · rw [upd_same, List.replicate_succ', List.map_append]
        rfl
    · rintro H1 ⟨s1, hb⟩
      refine ⟨L, _, rfl, SqL.of hb, ?_⟩
      have e : ((List.replicate vs.length true).all id) = true := by
        rw [List.all_eq_true]
        intro b hb
        exact (List.mem_replicate.mp hb).2
      rw [e]
      refine ⟨true, rfl, iteF ?_⟩
      have hln := sm.len
      have hvl := hp.len
      refine ⟨_, rfl, a, vs, rfl, .inl (SqL.of (s1 _ _ ha)), 1, (vs.length : Int), rfl, ⟨by decide, by decide, by omega, by omega⟩, for_it walk_range (fun i σ H2 => ∃ v2 v3, σ = [some (.ref a), none, v2, v3] ∧ Same H H2) ⟨none, none, rfl, s1⟩ (fun _ _ _ _ _ => trivial) ?_ ?_⟩
      · rintro i x σ H2 H3 hi ⟨v2, v3, rfl, s2⟩ ⟨rfl, rfl⟩
        have hi' : i + 1 < vs.length := by omega
        have hc1 : i + 1 < cs.length := by omega
        obtain ⟨u1, hu1, p1, rfl, hp1⟩ := hp.at_ (i + 1) cs[i + 1] (List.getElem?_eq_getElem hc1)
        obtain ⟨u0, hu0, p0, rfl, hp0⟩ := hp.at_ i (cs[i]'(by omega)) (List.getElem?_eq_getElem (by omega))
        have had := nt.ad i _ _ (List.getElem?_eq_getElem (show i < cs.length by omega)) (List.getElem?_eq_getElem hc1)
        refine ⟨_, rfl, _, rfl, a, vs, _, _, rfl, rfl, SqL.of (s2 _ _ ha), at_of (j := i + 1) (by omega) hu1, p1, _, 0, _, rfl, rfl, SqT.of (s2 _ _ hp1), rfl, ?_⟩
        refine ⟨_, rfl, _, rfl, _, rfl, _, _, rfl, rfl, a, vs, _, _, rfl, rfl, SqL.of (s2 _ _ ha), at_of (j := i) (by omega) hu0, p0, _, 0, _, rfl, rfl, SqT.of (s2 _ _ hp0), rfl, rfl, _, rfl, iteD (adj_ne had) ?_⟩
        refine ⟨_, rfl, rfl, _, rfl, ite2 (fun c => ?_) (fun c => ?_)⟩
        · refine ⟨_, rfl, _, rfl, _, _, rfl, rfl, a, vs, _, _, rfl, rfl, SqL.of (s2 _ _ ha), at_of (j := i) (by omega) hu0, p0, _, 0, _, rfl, rfl, SqT.of (s2 _ _ hp0), rfl, rfl, _, rfl, iteD (adj_pc had (of_decide_eq_true c)) ?_⟩
          exact ⟨_, _, rfl, s2⟩
        · exact ⟨_, _, rfl, s2⟩
      · rintro σ H2 ⟨v2, v3, rfl, s2⟩
        exact q _ s2

/-! ### size_of (of a part's thing), sizes -/
def spPsz : Sp := fun vs H Q _ => ∃ p : Part, vs = [thingOf p] ∧ small p ∧ Q (.int (psz p : Int)) H
theorem scPsz : FnScope ["thing"] ["thing"] (C8.fnScope (top 14)) := ⟨rfl, rfl, rfl, by decide +kernel, rfl, by decide +kernel, by decide +kernel⟩
theorem ok_psz (D : Df K mg "size_of_changes" "size_of" (top 14) ["thing"]) (B : Bt mg) : C8.Cal P w K mg base (k + 1) "size_of_changes" spPsz [] := by
  refine D.cal scPsz (fun vs H Q E h => ?_) (fun f cdv A outer s H vs Q E hr h => ?_)
  · obtain ⟨_, rfl, _⟩ := h
    rfl
  · obtain ⟨p, rfl, sm, q⟩ := h
    refine ⟨_, pss_cons (ps_if (pt_val (pe_callB call_isi (by rfl) B.isi boot_isinstance (pa_cons (pv 0) (pa_cons (pe_ty (by rfl) B.str boot_str) pa_nil)))) (pss_one (ps_ret (pe_callB call_len_str (by rfl) B.len PySem.boot_len (pa_cons (pv 0) pa_nil)))) pss_nil)
      (pss_one (ps_ret (pv 0))), ?_⟩
    cases p with
    | keep n => exact ⟨_, rfl, _, _, _, _, _, rfl, .ty _, .base (.int _), kit_ty k_int_str, false, rfl, iteF ⟨_, rfl, q⟩⟩
    | cut x =>
      refine ⟨_, rfl, _, _, _, _, _, rfl, .ty _, .base (.str _), kit_ty k_str_str, true, rfl, iteT ⟨_, rfl, _, rfl, S_le sm, ?_⟩⟩
      rw [S_len]
      exact q
    | put x =>
      refine ⟨_, rfl, _, _, _, _, _, rfl, .ty _, .base (.str _), kit_ty k_str_str, true, rfl, iteT ⟨_, rfl, _, rfl, S_le sm, ?_⟩⟩
      rw [S_len]
      exact q
def spSizes : Sp := fun vs H Q _ => ∃ (a : Addr) (cs : List Part), vs = [.ref a] ∧ ChAt H a cs ∧ Neat cs ∧ Sml cs ∧ ∀ H' p (g : Int), Same H H' → H' p = some (.tup [.int (over cs : Int), .int g]) → Q (.ref p) H'
theorem scSizes : FnScope ["change", "over", "word", "thing"] ["change"] (C8.fnScope (top 16)) := ⟨rfl, rfl, rfl, by decide +kernel, rfl, by decide +kernel, by decide +kernel⟩
theorem ok_sizes (D : Df K mg "sizes" "sizes" (top 16) ["change"]) (B : Bt mg) (Gn : C8.Cal P w K mg base 3 "need_change" spNeedChange []) (Gz : C8.Cal P w K mg base 1 "size_of_changes" spPsz []) : C8.Cal P w K mg base 4 "sizes" spSizes [] := by
  refine D.cal scSizes (fun vs H Q E h => ?_) (fun f cdv A outer s H vs Q E hr h => ?_)
  · obtain ⟨_, _, rfl, _⟩ := h
    rfl
  · obtain ⟨a, cs, rfl, ⟨vs, ha, hp⟩, nt, sm, q⟩ := h
    refine ⟨_, pss_cons (ps_expr (C8.pe_c Gn hr (by decide) (by rfl) (pa_cons (pv 0) pa_nil)))
      (pss_cons (ps_set (i := 1) scSizes.nd rfl (Or.inl rfl) (pe_callB (cr_sum rfl) (by rfl) B.sum boot_sum (pa_cons (pe_lc (own := [("word", 2), ("thing", 3)]) (g := gTup K 2 (gCons (gName 2) (gCons (gName 3) gNil))) (tt := tTest (tOp rNe (tVar 2) (tC (.str "put")))) rfl scSizes.nd (pi_list (pv 0))
          (blkOk_by (N := ["change", "over", "word", "thing"]) (sc := C8.fnScope (top 16)) (by decide +kernel))
          (fun _ _ _ _ _ => pg_tup rfl (pgs_cons (pg_name (i := 2) scSizes.nd rfl (Or.inl rfl)) (pgs_cons (pg_name (i := 3) scSizes.nd rfl (Or.inl rfl)) pgs_nil)))
          (fun _ _ _ _ _ => pts_one (pt_cmpR op_ne (pv 2) pe_str (nomark _))) (fun _ _ _ _ _ => C8.pe_c Gz hr (by decide) (by rfl) (pa_cons (pv 3) pa_nil))) pa_nil)))
      (pss_one (ps_ret (pe_tup (pa_cons (pv 1) (pa_cons (pe_callB (cr_sum rfl) (by rfl) B.sum boot_sum (pa_cons (pe_lc (own := [("word", 2), ("thing", 3)]) (g := gTup K 2 (gCons (gName 2) (gCons (gName 3) gNil))) (tt := tTest (tOp rNe (tVar 2) (tC (.str "cut")))) rfl scSizes.nd (pi_list (pv 0))
          (blkOk_by (N := ["change", "over", "word", "thing"]) (sc := C8.fnScope (top 16)) (by decide +kernel))
          (fun _ _ _ _ _ => pg_tup rfl (pgs_cons (pg_name (i := 2) scSizes.nd rfl (Or.inl rfl)) (pgs_cons (pg_name (i := 3) scSizes.nd rfl (Or.inl rfl)) pgs_nil)))
          (fun _ _ _ _ _ => pts_one (pt_cmpR op_ne (pv 2) pe_str (nomark _))) (fun _ _ _ _ _ => C8.pe_c Gz hr (by decide) (by rfl) (pa_cons (pv 3) pa_nil))) pa_nil)) pa_nil)))))), ?_⟩
    refine ⟨_, rfl, a, cs, rfl, ⟨vs, ha, hp⟩, nt, sm, fun H0 s0 => ?_⟩
    have hvl := hp.len
    have hln := sm.len
    refine ⟨_, rfl, a, rfl, ⟨_, SqL.of (s0 _ _ ha)⟩, fun L hL => lc_it (walk_list (K := K) (a := a) (xs := vs)) (fun i H' => Same H H' ∧ H' L = some (.lst ((ovL (cs.take i)).map V.int))) ⟨s0.trans (same_new hL _), upd_same⟩ (fun i H' _ h => SqL.of (h.1 _ _ ha)) ?_ ?_⟩
    · rintro i x H1 H2 hi ⟨s1, hb⟩ ⟨rfl, hx⟩
      obtain ⟨p, hc, pa, rfl, hpt⟩ := hp.get hx
      have hm := List.mem_of_getElem? hc
      have hln2 : (ovL (cs.take i)).length ≤ 1000 := by
        have h1 := ovL_len (cs.take i)
        rw [List.length_take] at h1
        omega
      refine ⟨pa, _, rfl, SqT.of (s1 _ _ hpt), rfl, _, _, rfl, _, _, rfl, rfl, rfl, _, rfl, rfl, _, rfl, ?_⟩
      rw [take_snoc hc, ovL_app]
      have nL : ∀ b o, H b = some o → b ≠ L := fun b o e => ne_of_none (s0 b o e) hL
      cases p with
      | put y =>
        refine iteNS rfl ⟨s1, ?_⟩
        rw [show ovL [Part.put y] = [] from rfl, List.append_nil]
        exact hb
      | keep n =>
        refine iteN w_keep_put ⟨_, rfl, .keep n, rfl, sm.all _ hm, _, hb, ?_, ?_, ?_⟩
        · rw [List.length_map]
          exact small1000 hln2
        · exact fun b o e => by
            rw [upd_ne (nL b o e)]
            exact s1 b o e
        · rw [upd_same, List.map_append]
          rfl
      | cut y =>
        refine iteN w_cut_put ⟨_, rfl, .cut y, rfl, sm.all _ hm, _, hb, ?_, ?_, ?_⟩
        · rw [List.length_map]
          exact small1000 hln2
        · exact fun b o e => by
            rw [upd_ne (nL b o e)]
            exact s1 b o e
        · rw [upd_same, List.map_append]
          rfl
    · rintro H1 ⟨s1, hb⟩
      rw [hvl, List.take_length] at hb
      refine ⟨L, _, rfl, SqL.of hb, ?_⟩
      rw [ovL_sum]
      refine ⟨_, rfl, ?_⟩
      refine ⟨_, rfl, a, rfl, ⟨_, SqL.of (s1 _ _ ha)⟩, fun M hM => lc_it (walk_list (K := K) (a := a) (xs := vs)) (fun i H' => Same H H' ∧ H' M = some (.lst ((gvL (cs.take i)).map V.int))) ⟨s1.trans (same_new hM _), upd_same⟩ (fun i H' _ h => SqL.of (h.1 _ _ ha)) ?_ ?_⟩
      · rintro i x H2 H3 hi ⟨s2, hb2⟩ ⟨rfl, hx⟩
        obtain ⟨p, hc, pa, rfl, hpt⟩ := hp.get hx
        have hm := List.mem_of_getElem? hc
        have hln2 : (gvL (cs.take i)).length ≤ 1000 := by
          have h1 := gvL_len (cs.take i)
          rw [List.length_take] at h1
          omega
        refine ⟨pa, _, rfl, SqT.of (s2 _ _ hpt), rfl, _, _, rfl, _, _, rfl, rfl, rfl, _, rfl, rfl, _, rfl, ?_⟩
        rw [take_snoc hc, gvL_app]
        have nM : ∀ b o, H b = some o → b ≠ M := fun b o e => ne_of_none (s1 b o e) hM
        cases p with
        | cut y =>
          refine iteNS rfl ⟨s2, ?_⟩
          rw [show gvL [Part.cut y] = [] from rfl, List.append_nil]
          exact hb2
        | keep n =>
          refine iteN w_keep_cut ⟨_, rfl, .keep n, rfl, sm.all _ hm, _, hb2, ?_, ?_, ?_⟩
          · rw [List.length_map]
            exact small1000 hln2
          · exact fun b o e => by
              rw [upd_ne (nM b o e)]
              exact s2 b o e
          · rw [upd_same, List.map_append]
            rfl
        | put y =>
          refine iteN w_put_cut ⟨_, rfl, .put y, rfl, sm.all _ hm, _, hb2, ?_, ?_, ?_⟩
          · rw [List.length_map]
            exact small1000 hln2
          · exact fun b o e => by
              rw [upd_ne (nM b o e)]
              exact s2 b o e
          · rw [upd_same, List.map_append]
            rfl
      · rintro H2 ⟨s2, hb2⟩
        refine ⟨M, _, rfl, SqL.of hb2, (by show 2 ≤ sizeLine; decide), fun t ht => ?_⟩
        exact q _ t _ (s2.trans (same_new ht _)) upd_same
end
end Ink
end
section
namespace Ink
open PySem PySem.Spec PyProof.Rows L2 SX

theorem lk1 {f g : Str} {v : V} (h : (f == g) = false) : List.lookup f [(g, v)] = none := by simp [List.lookup, h]
theorem lk1y {f : Str} {v : V} : List.lookup f [(f, v)] = some v := by simp [List.lookup]
/-- a stock that holds the signs s -/
def StAt (C : Addr) (H : Hp) (a : Addr) (s : List Nat) : Prop := ∃ dx : Addr, H a = some (.ins C dx [("signs", .str (S s))])
theorem StAt.mono {C : Addr} {H H' : Hp} {a : Addr} {s : List Nat} (k : Same H H') (h : StAt C H a s) : StAt C H' a s := by
  obtain ⟨dx, e⟩ := h
  exact ⟨dx, k _ _ e⟩
theorem StAt.tk {C : Addr} {H H' : Hp} {a : Addr} {s : List Nat} (h : StAt C H a s) (b : But a H H') : TK H H' := fun c xs e => by
  obtain ⟨dx, q⟩ := h
  exact b c _ e (ne_of e q (by intro z; cases z))
/-- the class Stock -/
structure Sk (K : PySem.W.Frag) (C : Addr) : Prop where
  cl : Cls K C
  nS : NoAttr K C "signs"

section
variable {P : Program} {w : World} {K : PySem.W.Frag} {mg : Str → Option Value} {base : Heap} {k : Nat} {C : Addr}

/-! ### is_among -/
def spAmong : Sp := fun vs H Q _ => ∃ t a b : Int, vs = [.int t, .int a, .int b] ∧ a ≤ t ∧ t ≤ b ∧ Q (.bl true) H
theorem scAmong : FnScope ["thing", "least", "most"] ["thing", "least", "most"] (C8.fnScope (top 32)) := ⟨rfl, rfl, rfl, by decide +kernel, rfl, by decide +kernel, by decide +kernel⟩
theorem ok_among (D : Df K mg "is_among" "is_among" (top 32) ["thing", "least", "most"]) (B : Bt mg) : C8.Cal P w K mg base (k + 1) "is_among" spAmong [] := by
  refine D.cal scAmong (fun vs H Q E h => ?_) (fun f cdv A outer s H vs Q E hr h => ?_)
  · obtain ⟨_, _, _, rfl, _⟩ := h
    rfl
  · obtain ⟨t, a, b, rfl, h1, h2, q⟩ := h
    refine ⟨_, pss_one (ps_ret (pe_and (pe_callB call_isi (by rfl) B.isi boot_isinstance (pa_cons (pv 0) (pa_cons (pe_ty (by rfl) B.int boot_int) pa_nil)))
      (pe_and (pe_not (pe_callB call_isi (by rfl) B.isi boot_isinstance (pa_cons (pv 0) (pa_cons (pe_ty (by rfl) B.bool boot_bool) pa_nil))))
      (pe_one (pe_chain op_le op_le (pv 1) (pv 0) (pv 2)))))), ?_⟩
    refine ⟨_, rfl, _, _, _, _, _, rfl, .ty _, .base (.int _), kit_ty k_int_int, true, rfl, iteT ⟨_, rfl, _, _, _, _, _, rfl, .ty _, .base (.int _), kit_ty k_int_bool, false, rfl, true, rfl, iteT ?_⟩⟩
    refine ⟨_, rfl, _, rfl, _, _, rfl, rfl, _, rfl, iteD' h1 ⟨_, rfl, _, _, rfl, rfl, ?_⟩⟩
    show Q (.bl (decide (t ≤ b))) H
    rw [decide_eq_true h2]
    exact q

/-! ### Stock -/
def spSInit (C : Addr) : Sp := fun vs H Q _ => ∃ (p dx : Addr), vs = [.ref p] ∧ H p = some (.ins C dx []) ∧ Q .non (upd H p (.ins C dx [("signs", .str (S []))]))
theorem scSInit : FnScope ["self"] ["self"] (C8.fnScope (inC 33 0)) := ⟨rfl, rfl, rfl, by decide +kernel, rfl, by decide +kernel, by decide +kernel⟩
theorem ok_sinit (D : Nf K mg C "Stock" "Stock.__init__" (inC 33 0) ["self"]) (T : Sk K C) : C8.Mak P w K mg base (k + 1) "Stock" C (spSInit C) [] := by
  refine D.mak scSInit (fun vs H Q E h => ?_) (fun f cdv A outer s H vs Q E hr h => ?_)
  · obtain ⟨_, _, rfl, _⟩ := h
    rfl
  · obtain ⟨p, dx, rfl, hp, q⟩ := h
    refine ⟨_, pss_one (ps_fld (pv 0) pe_str rfl), ?_⟩
    refine ⟨_, rfl, p, C, dx, [], rfl, hp, T.cl, T.nS, (by show 0 < 1000; decide), ?_⟩
    rw [em_S]
    exact q
def spPut (C : Addr) : Sp := fun vs H Q _ => ∃ (st : Addr) (s x : List Nat), vs = [.ref st, .str (S x)] ∧ StAt C H st s ∧ OkT x ∧ s.length + x.length ≤ 100000 ∧
  ∀ H', But st H H' → StAt C H' st (s ++ x) → Q (.int (s.length : Int)) H'
theorem scPut : FnScope ["self", "text", "begin"] ["self", "text"] (C8.fnScope (inC 33 2)) := ⟨rfl, rfl, rfl, by decide +kernel, rfl, by decide +kernel, by decide +kernel⟩
theorem ok_put (D : Mf K C "put" "Stock.put" (inC 33 2) ["self", "text"]) (T : Sk K C) (B : Bt mg) (Gn : C8.Cal P w K mg base 2 "need_text" spNeedText []) : C8.Met P w K mg base 3 C "put" (spPut C) [] := by
  refine D.met scPut (fun vs H Q E h => ?_) (fun f cdv A outer s H vs Q E hr h => ?_)
  · obtain ⟨_, _, _, rfl, _⟩ := h
    rfl
  · obtain ⟨st, z, x, rfl, ⟨dx, hst⟩, ok, hl, q⟩ := h
    refine ⟨_, pss_cons (ps_expr (C8.pe_c Gn hr (by decide) (by rfl) (pa_cons (pv 1) pa_nil)))
      (pss_cons (ps_set (i := 2) scPut.nd rfl (Or.inl rfl) (pe_callB call_len_str (by rfl) B.len PySem.boot_len (pa_cons (pe_fld (pv 0) rfl) pa_nil)))
      (pss_cons (ps_fld (pv 0) (pe_op op_add_str (pe_fld (pv 0) rfl) (pv 1)) rfl)
      (pss_one (ps_ret (pv 2))))), ?_⟩
    refine ⟨_, rfl, x, rfl, ok, by omega, fun H0 s0 => ?_⟩
    refine ⟨_, rfl, st, C, dx, _, _, rfl, s0 _ _ hst, T.cl, T.nS, lk1y, _, rfl, S_le (by omega), ?_⟩
    refine ⟨_, rfl, st, C, dx, _, _, rfl, s0 _ _ hst, T.cl, T.nS, lk1y, _, rfl, _, _, rfl, rfl, ?_, _, rfl, st, C, dx, _, rfl, s0 _ _ hst, T.cl, T.nS, (by show 1 < 1000; decide), ?_⟩
    · rw [S_len, S_len]
      exact sz_le hl
    refine ⟨_, rfl, ?_⟩
    rw [S_len]
    refine q _ ((But.of s0).trans (But.upd _)) ⟨dx, ?_⟩
    rw [upd_same, S_cat]
    rfl
def spRead (C : Addr) : Sp := fun vs H Q _ => ∃ (st : Addr) (s : List Nat) (ib iN : Int) (b n : Nat), vs = [.ref st, .int ib, .int iN] ∧ StAt C H st s ∧ ib = (b : Int) ∧ iN = (n : Int) ∧ b + n ≤ s.length ∧ s.length ≤ 100000 ∧ Q (.str (S ((s.drop b).take n))) H
theorem scRead : FnScope ["self", "begin", "size"] ["self", "begin", "size"] (C8.fnScope (inC 33 3)) := ⟨rfl, rfl, rfl, by decide +kernel, rfl, by decide +kernel, by decide +kernel⟩
theorem ok_read (D : Mf K C "read" "Stock.read" (inC 33 3) ["self", "begin", "size"]) (T : Sk K C) (B : Bt mg) (Ga : C8.Cal P w K mg base 1 "is_among" spAmong []) : C8.Met P w K mg base 2 C "read" (spRead C) [] := by
  refine D.met scRead (fun vs H Q E h => ?_) (fun f cdv A outer s H vs Q E hr h => ?_)
  · obtain ⟨_, _, _, _, _, _, rfl, _⟩ := h
    rfl
  · obtain ⟨st, z, _, _, b, n, rfl, ⟨dx, hst⟩, rfl, rfl, hb, hl, q⟩ := h
    refine ⟨_, pss_cons (ps_if (PW.pt (pw_or (pt_not (pt_val (C8.pe_c Ga hr (by decide) (by rfl) (pa_cons (pv 1) (pa_cons pe_int (pa_cons (pe_callB call_len_str (by rfl) B.len PySem.boot_len (pa_cons (pe_fld (pv 0) rfl) pa_nil)) pa_nil))))))
          (pw_or1 (pt_not (pt_val (C8.pe_c Ga hr (by decide) (by rfl) (pa_cons (pv 2) (pa_cons pe_int (pa_cons (pe_op op_sub (pe_callB call_len_str (by rfl) B.len PySem.boot_len (pa_cons (pe_fld (pv 0) rfl) pa_nil)) (pv 1)) pa_nil)))))))))
        (pss_one ps_never) pss_nil)
      (pss_one (ps_ret (pe_slice sl_str (pe_fld (pv 0) rfl) (po_some (pv 1)) (po_some (pe_op op_add (pv 1) (pv 2)))))), ?_⟩
    refine ⟨_, rfl, _, rfl, st, C, dx, _, _, rfl, hst, T.cl, T.nS, lk1y, _, rfl, S_le hl, _, _, _, rfl, by omega, (by rw [S_len]; omega), true, rfl, iteF ?_⟩
    refine ⟨_, rfl, _, rfl, st, C, dx, _, _, rfl, hst, T.cl, T.nS, lk1y, _, rfl, S_le hl, _, rfl, _, _, rfl, rfl, _, _, _, rfl, by omega, (by rw [S_len]; omega), true, rfl, iteF ?_⟩
    refine ⟨_, rfl, st, C, dx, _, _, rfl, hst, T.cl, T.nS, lk1y, _, rfl, _, rfl, _, rfl, _, rfl, _, _, rfl, rfl, _, rfl, _, rfl, S_le hl, ?_⟩
    rw [cut_S (by omega) (by omega)]
    unfold sub
    rw [show ((b : Int)).toNat = b by omega, show ((b : Int) + (n : Int) - (b : Int)).toNat = n by omega]
    exact q
end
end Ink
end
section
namespace Ink
open PySem PySem.Spec PyProof.Rows L2 SX
section
variable {P : Program} {w : World} {K : PySem.W.Frag} {mg : Str → Option Value} {base : Heap} {k : Nat} {C : Addr}

/-! ### last_off, first_off -/
def spLast (n : Nat) : Sp := fun vs H Q _ => ∃ (v : V) (l r : Tr) (p : Pc), vs = [v] ∧ NodeAt H v (.node l p r) ∧ (Tr.node l p r).cnt ≤ n ∧
  ∀ H' t v1 v2 t' p', Same H H' → H' t = some (.tup [v1, v2]) → NodeAt H' v1 t' → PcAt H' v2 p' → (Tr.node l p r).toL = t'.toL ++ [p'] → Q (.ref t) H'
def spFirst (n : Nat) : Sp := fun vs H Q _ => ∃ (v : V) (l r : Tr) (p : Pc), vs = [v] ∧ NodeAt H v (.node l p r) ∧ (Tr.node l p r).cnt ≤ n ∧
  ∀ H' t v1 v2 t' p', Same H H' → H' t = some (.tup [v2, v1]) → NodeAt H' v1 t' → PcAt H' v2 p' → (Tr.node l p r).toL = p' :: t'.toL → Q (.ref t) H'
theorem scLast : FnScope ["node", "rest", "piece"] ["node"] (C8.fnScope (top 25)) := ⟨rfl, rfl, rfl, by decide +kernel, rfl, by decide +kernel, by decide +kernel⟩
theorem scFirst : FnScope ["node", "piece", "rest"] ["node"] (C8.fnScope (top 26)) := ⟨rfl, rfl, rfl, by decide +kernel, rfl, by decide +kernel, by decide +kernel⟩
theorem ok_last (D : Df K mg "last_off" "last_off" (top 25) ["node"]) (Gt : C8.Cal P w K mg base 3 "turned" spTurned []) : ∀ n : Nat, C8.Cal P w K mg base (n + 4) "last_off" (spLast n) []
  | 0 => by
    refine D.cal scLast (fun vs H Q E h => ?_) (fun f cdv A outer s H vs Q E hr h => ?_)
    · obtain ⟨_, _, _, _, rfl, _⟩ := h
      rfl
    · obtain ⟨v, l, r, p, rfl, hn, hc, q⟩ := h
      rw [cnt_node] at hc
      omega
  | n + 1 => by
    have ih := ok_last D Gt n
    refine D.cal scLast (fun vs H Q E h => ?_) (fun f cdv A outer s H vs Q E hr h => ?_)
    · obtain ⟨_, _, _, _, rfl, _⟩ := h
      rfl
    · obtain ⟨v, l, r, p, rfl, hn, hc, q⟩ := h
      have ge3 : 3 ≤ n + 4 := by omega
      obtain ⟨a, vl, vp, vr, rfl, ha, hl, hp, hR⟩ := hn
      refine ⟨_, pss_cons (ps_if (pt_cmp (pc_isN (pe_ix ix_tup (pv 0) pe_int (fun _ _ => rfl)))) (pss_one (ps_ret (pe_tup (pa_cons (pe_ix ix_tup (pv 0) pe_int (fun _ _ => rfl)) (pa_cons (pe_ix ix_tup (pv 0) pe_int (fun _ _ => rfl)) pa_nil))))) pss_nil)
        (pss_cons (ps_asg (C8.pe_c ih hr (Nat.le_refl _) (by rfl) (pa_cons (pe_ix ix_tup (pv 0) pe_int (fun _ _ => rfl)) pa_nil)) (pg_tup (by rfl) (pgs_cons (pg_name (i := 1) scLast.nd rfl (Or.inl rfl)) (pgs_cons (pg_name (i := 2) scLast.nd rfl (Or.inl rfl)) pgs_nil))))
        (pss_one (ps_ret (pe_tup (pa_cons (C8.pe_c Gt hr ge3 (by rfl) (pa_cons (pe_ix ix_tup (pv 0) pe_int (fun _ _ => rfl)) (pa_cons (pe_ix ix_tup (pv 0) pe_int (fun _ _ => rfl)) (pa_cons (pv 1) pa_nil)))) (pa_cons (pv 2) pa_nil)))))), ?_⟩
      refine ⟨_, rfl, a, _, 2, _, rfl, rfl, SqT.of ha, rfl, _, rfl, ?_⟩
      cases r with
      | nil =>
        obtain rfl : vr = .non := hR
        refine iteT ?_
        refine ⟨_, rfl, a, _, 0, _, rfl, rfl, SqT.of ha, rfl, _, rfl, a, _, 1, _, rfl, rfl, SqT.of ha, rfl, (by show 2 ≤ sizeLine; decide), fun t ht => ?_⟩
        have s1 := same_new ht (HO.tup [vl, vp])
        exact q _ t vl vp l p s1 upd_same (hl.mono (TK.of s1)) (hp.mono (TK.of s1)) rfl
      | node rl rp rr =>
        have hR' := hR
        obtain ⟨b, _, _, _, rfl, _⟩ := hR'
        refine iteF ?_
        rw [cnt_node] at hc
        refine ⟨_, rfl, a, _, 2, _, rfl, rfl, SqT.of ha, rfl, .ref b, rl, rr, rp, rfl, hR, by omega, fun H1 t v1 v2 t' p' s1 ht h1 h2 e => ?_⟩
        refine ⟨t, _, rfl, SqT.of ht, rfl, _, _, rfl, _, _, rfl, rfl, ?_⟩
        refine ⟨_, rfl, a, _, 0, _, rfl, rfl, SqT.of (s1 _ _ ha), rfl, _, rfl, a, _, 1, _, rfl, rfl, SqT.of (s1 _ _ ha), rfl, _, rfl, vl, vp, v1, l, t', p, rfl, hl.mono (TK.of s1), hp.mono (TK.of s1), h1, fun v3 H2 t3 s2 h3 e3 => ?_⟩
        refine ⟨_, rfl, (by show 2 ≤ sizeLine; decide), fun u hu => ?_⟩
        have s3 := same_new hu (HO.tup [v3, v2])
        refine q _ u v3 v2 t3 p' ((s1.trans s2).trans s3) upd_same (h3.mono (TK.of s3)) (h2.mono (TK.of (s2.trans s3))) ?_
        rw [e3]
        show l.toL ++ p :: (Tr.node rl rp rr).toL = _
        rw [e, List.append_assoc]
        rfl
theorem ok_first (D : Df K mg "first_off" "first_off" (top 26) ["node"]) (Gt : C8.Cal P w K mg base 3 "turned" spTurned []) : ∀ n : Nat, C8.Cal P w K mg base (n + 4) "first_off" (spFirst n) []
  | 0 => by
    refine D.cal scFirst (fun vs H Q E h => ?_) (fun f cdv A outer s H vs Q E hr h => ?_)
    · obtain ⟨_, _, _, _, rfl, _⟩ := h
      rfl
    · obtain ⟨v, l, r, p, rfl, hn, hc, q⟩ := h
      rw [cnt_node] at hc
      omega
  | n + 1 => by
    have ih := ok_first D Gt n
    refine D.cal scFirst (fun vs H Q E h => ?_) (fun f cdv A outer s H vs Q E hr h => ?_)
    · obtain ⟨_, _, _, _, rfl, _⟩ := h
      rfl
    · obtain ⟨v, l, r, p, rfl, hn, hc, q⟩ := h
      have ge3 : 3 ≤ n + 4 := by omega
      obtain ⟨a, vl, vp, vr, rfl, ha, hl, hp, hR⟩ := hn
      refine ⟨_, pss_cons (ps_if (pt_cmp (pc_isN (pe_ix ix_tup (pv 0) pe_int (fun _ _ => rfl)))) (pss_one (ps_ret (pe_tup (pa_cons (pe_ix ix_tup (pv 0) pe_int (fun _ _ => rfl)) (pa_cons (pe_ix ix_tup (pv 0) pe_int (fun _ _ => rfl)) pa_nil))))) pss_nil)
        (pss_cons (ps_asg (C8.pe_c ih hr (Nat.le_refl _) (by rfl) (pa_cons (pe_ix ix_tup (pv 0) pe_int (fun _ _ => rfl)) pa_nil)) (pg_tup (by rfl) (pgs_cons (pg_name (i := 1) scFirst.nd rfl (Or.inl rfl)) (pgs_cons (pg_name (i := 2) scFirst.nd rfl (Or.inl rfl)) pgs_nil))))
        (pss_one (ps_ret (pe_tup (pa_cons (pv 1) (pa_cons (C8.pe_c Gt hr ge3 (by rfl) (pa_cons (pv 2) (pa_cons (pe_ix ix_tup (pv 0) pe_int (fun _ _ => rfl)) (pa_cons (pe_ix ix_tup (pv 0) pe_int (fun _ _ => rfl)) pa_nil)))) pa_nil)))))), ?_⟩
      refine ⟨_, rfl, a, _, 0, _, rfl, rfl, SqT.of ha, rfl, _, rfl, ?_⟩
      cases l with
      | nil =>
        obtain rfl : vl = .non := hl
        refine iteT ?_
        refine ⟨_, rfl, a, _, 1, _, rfl, rfl, SqT.of ha, rfl, _, rfl, a, _, 2, _, rfl, rfl, SqT.of ha, rfl, (by show 2 ≤ sizeLine; decide), fun t ht => ?_⟩
        have s1 := same_new ht (HO.tup [vp, vr])
        exact q _ t vr vp r p s1 upd_same (hR.mono (TK.of s1)) (hp.mono (TK.of s1)) rfl
      | node ll lp lr =>
        have hl' := hl
        obtain ⟨b, _, _, _, rfl, _⟩ := hl'
        refine iteF ?_
        rw [cnt_node] at hc
        refine ⟨_, rfl, a, _, 0, _, rfl, rfl, SqT.of ha, rfl, .ref b, ll, lr, lp, rfl, hl, by omega, fun H1 t v1 v2 t' p' s1 ht h1 h2 e => ?_⟩
        refine ⟨t, _, rfl, SqT.of ht, rfl, _, _, rfl, _, _, rfl, rfl, ?_⟩
        refine ⟨_, rfl, _, rfl, _, rfl, a, _, 1, _, rfl, rfl, SqT.of (s1 _ _ ha), rfl, _, rfl, a, _, 2, _, rfl, rfl, SqT.of (s1 _ _ ha), rfl, v1, vp, vr, t', r, p, rfl, h1, hp.mono (TK.of s1), hR.mono (TK.of s1), fun v3 H2 t3 s2 h3 e3 => ?_⟩
        refine ⟨(by show 2 ≤ sizeLine; decide), fun u hu => ?_⟩
        have s3 := same_new hu (HO.tup [v2, v3])
        refine q _ u v3 v2 t3 p' ((s1.trans s2).trans s3) upd_same (h3.mono (TK.of s3)) (h2.mono (TK.of (s2.trans s3))) ?_
        rw [e3]
        show (Tr.node ll lp lr).toL ++ p :: r.toL = _
        rw [e]
        rfl

/-! ### met -/
def spMet (n : Nat) : Sp := fun vs H Q _ => ∃ (vl vr : V) (l r : Tr), vs = [vl, vr] ∧ NodeAt H vl l ∧ NodeAt H vr r ∧ l.cnt + r.cnt ≤ n ∧ ∀ v H' t, Same H H' → NodeAt H' v t → t.toL = l.toL ++ r.toL → Q v H'
theorem scMet : FnScope ["left", "right", "rest", "piece"] ["left", "right"] (C8.fnScope (top 27)) := ⟨rfl, rfl, rfl, by decide +kernel, rfl, by decide +kernel, by decide +kernel⟩
theorem ok_met {n : Nat} (D : Df K mg "met" "met" (top 27) ["left", "right"]) (Gl : C8.Cal P w K mg base (n + 4) "last_off" (spLast n) []) (Gj : C8.Cal P w K mg base (n + 4) "joined" (spJoined n) []) : C8.Cal P w K mg base (n + 5) "met" (spMet n) [] := by
  refine D.cal scMet (fun vs H Q E h => ?_) (fun f cdv A outer s H vs Q E hr h => ?_)
  · obtain ⟨_, _, _, _, rfl, _⟩ := h
    rfl
  · obtain ⟨vl, vr, l, r, rfl, hl, hR, hc, q⟩ := h
    refine ⟨_, pss_cons (ps_if (pt_cmp (pc_isN (pv 0))) (pss_one (ps_ret (pv 1))) pss_nil)
      (pss_cons (ps_if (pt_cmp (pc_isN (pv 1))) (pss_one (ps_ret (pv 0))) pss_nil)
      (pss_cons (ps_asg (C8.pe_c Gl hr (Nat.le_refl _) (by rfl) (pa_cons (pv 0) pa_nil)) (pg_tup (by rfl) (pgs_cons (pg_name (i := 2) scMet.nd rfl (Or.inl rfl)) (pgs_cons (pg_name (i := 3) scMet.nd rfl (Or.inl rfl)) pgs_nil))))
      (pss_one (ps_ret (C8.pe_c Gj hr (Nat.le_refl _) (by rfl) (pa_cons (pv 2) (pa_cons (pv 3) (pa_cons (pv 1) pa_nil)))))))), ?_⟩
    refine ⟨_, rfl, _, rfl, ?_⟩
    cases l with
    | nil =>
      obtain rfl : vl = .non := hl
      exact iteT ⟨_, rfl, q _ _ _ (Same.refl _) hR rfl⟩
    | node ll lp lr =>
      have hl' := hl
      obtain ⟨b, _, _, _, rfl, _⟩ := hl'
      refine iteF ⟨_, rfl, _, rfl, ?_⟩
      cases r with
      | nil =>
        obtain rfl : vr = .non := hR
        exact iteT ⟨_, rfl, q _ _ _ (Same.refl _) hl (List.append_nil _).symm⟩
      | node rl rp rr =>
        have hR' := hR
        obtain ⟨c, _, _, _, rfl, _⟩ := hR'
        refine iteF ⟨_, rfl, _, ll, lr, lp, rfl, hl, by omega, fun H1 t v1 v2 t' p' s1 ht h1 h2 e => ?_⟩
        refine ⟨t, _, rfl, SqT.of ht, rfl, _, _, rfl, _, _, rfl, rfl, ?_⟩
        refine ⟨_, rfl, _, rfl, _, rfl, v1, v2, .ref c, t', _, p', rfl, h1, h2, hR.mono (TK.of s1), ?_, fun v3 H2 t3 s2 h3 e3 => q _ _ _ (s1.trans s2) h3 ?_⟩
        · have e1 : (Tr.node ll lp lr).cnt = t'.cnt + 1 := by
            show (Tr.node ll lp lr).toL.length = t'.toL.length + 1
            rw [e, List.length_append]
            rfl
          omega
        · rw [e3, e, List.append_assoc]
          rfl

/-! ### piece_cut -/
def spCut (C : Addr) : Sp := fun vs H Q _ => ∃ (vp : V) (p : Pc) (st : Addr) (s : List Nat) (ia : Int) (a : Nat), vs = [vp, .int ia, .ref st] ∧ ia = (a : Int) ∧ PcAt H vp p ∧ StAt C H st s ∧ PcOk s p ∧ 0 < a ∧ a < p.s ∧ s.length ≤ 100000 ∧
  ∀ H' t v1 v2, Same H H' → H' t = some (.tup [v1, v2]) → PcAt H' v1 (cutA s p a) → PcAt H' v2 (cutB s p a) → Q (.ref t) H'
theorem scCut : FnScope ["piece", "at", "stock", "ends"] ["piece", "at", "stock"] (C8.fnScope (top 28)) := ⟨rfl, rfl, rfl, by decide +kernel, rfl, by decide +kernel, by decide +kernel⟩
theorem ok_cut (D : Df K mg "piece_cut" "piece_cut" (top 28) ["piece", "at", "stock"]) (Gr : C8.Met P w K mg base 2 C "read" (spRead C) []) : C8.Cal P w K mg base 3 "piece_cut" (spCut C) [] := by
  refine D.cal scCut (fun vs H Q E h => ?_) (fun f cdv A outer s H vs Q E hr h => ?_)
  · obtain ⟨_, _, _, _, _, _, rfl, _⟩ := h
    rfl
  · obtain ⟨vp, p, st, z, _, a, rfl, rfl, ⟨pa, rfl, hpa⟩, hst, ok, h1, h2, hz, q⟩ := h
    have hst' := hst
    obtain ⟨dx, hsx⟩ := hst'
    refine ⟨_, pss_cons (ps_set (i := 3) scCut.nd rfl (Or.inl rfl) (pe_m1 PySem.F.slot_str_count PySem.F.type_str_count mt_count (C8.pe_mt Gr hr (by decide) (pv 2) (pa_cons (pe_ix ix_tup (pv 0) pe_int (fun _ _ => rfl)) (pa_cons (pv 1) pa_nil))) pe_str))
      (pss_one (ps_ret (pe_tup (pa_cons (pe_tup (pa_cons (pe_ix ix_tup (pv 0) pe_int (fun _ _ => rfl)) (pa_cons (pv 1) (pa_cons (pv 3) pa_nil))))
        (pa_cons (pe_tup (pa_cons (pe_op op_add (pe_ix ix_tup (pv 0) pe_int (fun _ _ => rfl)) (pv 1)) (pa_cons (pe_op op_sub (pe_ix ix_tup (pv 0) pe_int (fun _ _ => rfl)) (pv 1)) (pa_cons (pe_op op_sub (pe_ix ix_tup (pv 0) pe_int (fun _ _ => rfl)) (pv 3)) pa_nil)))) pa_nil))))), ?_⟩
    have fit := ok.fit
    refine ⟨_, rfl, st, dx, _, rfl, hsx, lk1 (by decide +kernel), _, rfl, pa, _, 0, _, rfl, rfl, SqT.of hpa, rfl, _, rfl, st, z, _, _, p.b, a, rfl, hst, rfl, rfl, by omega, hz, ⟨_, rfl⟩, _, _, rfl, rfl, ?_⟩
    rw [cnt10]
    refine ⟨_, rfl, pa, _, 0, _, rfl, rfl, SqT.of hpa, rfl, _, rfl, _, rfl, (by show 3 ≤ sizeLine; decide), fun t1 ht1 => ?_⟩
    have s1 := same_new ht1 (HO.tup [V.int (p.b : Int), V.int (a : Int), V.int ((((z.drop p.b).take a).count 10 : Nat) : Int)])
    refine ⟨_, rfl, pa, _, 0, _, rfl, rfl, SqT.of (s1 _ _ hpa), rfl, _, rfl, _, _, rfl, rfl, _, rfl, pa, _, 1, _, rfl, rfl, SqT.of (s1 _ _ hpa), rfl, _, rfl, _, _, rfl, rfl, _, rfl, pa, _, 2, _, rfl, rfl, SqT.of (s1 _ _ hpa), rfl, _, rfl, _, _, rfl, rfl, (by show 3 ≤ sizeLine; decide), fun t2 ht2 => ?_⟩
    have s2 := same_new ht2 (HO.tup [V.int ((p.b : Int) + (a : Int)), V.int ((p.s : Int) - (a : Int)), V.int ((p.e : Int) - ((((z.drop p.b).take a).count 10 : Nat) : Int))])
    refine ⟨(by show 2 ≤ sizeLine; decide), fun t3 ht3 => ?_⟩
    have s3 := same_new ht3 (HO.tup [V.ref t1, V.ref t2])
    refine q _ t3 (.ref t1) (.ref t2) ((s1.trans s2).trans s3) upd_same ⟨t1, rfl, s3 _ _ (s2 _ _ upd_same)⟩ ⟨t2, rfl, s3 _ _ ?_⟩
    rw [upd_same]
    have hle := cut_le ok (Nat.le_of_lt h2)
    have e1 : (p.b : Int) + (a : Int) = ((cutB z p a).b : Int) := by
      show _ = ((p.b + a : Nat) : Int)
      omega
    have e2 : (p.s : Int) - (a : Int) = ((cutB z p a).s : Int) := by
      show _ = ((p.s - a : Nat) : Int)
      omega
    have e3 : (p.e : Int) - ((((z.drop p.b).take a).count 10 : Nat) : Int) = ((cutB z p a).e : Int) := by
      show _ = ((p.e - ((z.drop p.b).take a).count 10 : Nat) : Int)
      omega
    rw [← e1, ← e2, ← e3]
end
end Ink
end
section
namespace Ink
open PySem PySem.Spec PyProof.Rows L2 SX

theorem tr_nil {t : Tr} (h : t.cnt ≤ 0) : t = .nil := by
  cases t with
  | nil => rfl
  | node l p r =>
    rw [cnt_node] at h
    omega
theorem cnt_toL {t : Tr} {l : List Pc} (h : t.toL = l) : t.cnt = l.length := congrArg List.length h

section
variable {P : Program} {w : World} {K : PySem.W.Frag} {mg : Str → Option Value} {base : Heap} {k : Nat} {C : Addr}

/-! ### parted -/
def spParted (C : Addr) (n : Nat) : Sp := fun vs H Q _ => ∃ (v : V) (t : Tr) (st : Addr) (s : List Nat) (ip : Int) (pl : Nat), vs = [v, .int ip, .ref st] ∧ ip = (pl : Int) ∧ NodeAt H v t ∧ StAt C H st s ∧ LOk s t.toL ∧ t.cnt ≤ n ∧ s.length ≤ 100000 ∧
  ∀ H' tp v1 v2 t1 t2, Same H H' → H' tp = some (.tup [v1, v2]) → NodeAt H' v1 t1 → NodeAt H' v2 t2 → LOk s t1.toL → LOk s t2.toL → ltx s t1.toL = (ltx s t.toL).take pl → ltx s t2.toL = (ltx s t.toL).drop pl → t1.cnt + t2.cnt ≤ t.cnt + 1 → Q (.ref tp) H'
theorem scParted : FnScope ["node", "place", "stock", "at", "first", "rest", "last", "one", "other"] ["node", "place", "stock"] (C8.fnScope (top 29)) := ⟨rfl, rfl, rfl, by decide +kernel, rfl, by decide +kernel, by decide +kernel⟩
theorem ok_parted {M : Nat} (D : Df K mg "parted" "parted" (top 29) ["node", "place", "stock"]) (Gs : C8.Cal P w K mg base 1 "size_of_nodes" (spGet Tr.sz) []) (Gj : C8.Cal P w K mg base (M + 4) "joined" (spJoined M) []) (Gc : C8.Cal P w K mg base 3 "piece_cut" (spCut C) []) :
    ∀ n : Nat, n ≤ M → C8.Cal P w K mg base (M + 5 + n) "parted" (spParted C n) []
  | 0, _ => by
    refine D.cal scParted (fun vs H Q E h => ?_) (fun f cdv A outer s H vs Q E hr h => ?_)
    · obtain ⟨_, _, _, _, _, _, rfl, _⟩ := h
      rfl
    · obtain ⟨v, t, st, z, _, pl, rfl, rfl, hn, hst, ok, hc, hz, q⟩ := h
      obtain rfl := tr_nil hc
      obtain rfl : v = .non := hn
      refine ⟨_, pss_cons (ps_if (pt_cmp (pc_isN (pv 0))) (pss_one (ps_ret (pe_tup (pa_cons pe_non (pa_cons pe_non pa_nil))))) pss_nil) pss_never, ?_⟩
      refine ⟨_, rfl, _, rfl, iteT ⟨(by show 2 ≤ sizeLine; decide), fun t ht => ?_⟩⟩
      exact q _ t .non .non .nil .nil (same_new ht _) upd_same rfl rfl lok_nil lok_nil List.take_nil.symm List.drop_nil.symm (Nat.zero_le _)
  | n + 1, hM => by
    have ih := ok_parted D Gs Gj Gc n (by omega)
    refine D.cal (k := M + 5 + n) scParted (fun vs H Q E h => ?_) (fun f cdv A outer s H vs Q E hr h => ?_)
    · obtain ⟨_, _, _, _, _, _, rfl, _⟩ := h
      rfl
    · obtain ⟨v, t, st, z, _, pl, rfl, rfl, hn, hst, ok, hc, hz, q⟩ := h
      have g1 : 1 ≤ M + 5 + n := by omega
      have g3 : 3 ≤ M + 5 + n := by omega
      have gj : M + 4 ≤ M + 5 + n := by omega
      refine ⟨_, pss_cons (ps_if (pt_cmp (pc_isN (pv 0))) (pss_one (ps_ret (pe_tup (pa_cons pe_non (pa_cons pe_non pa_nil))))) pss_nil)
        (pss_cons (ps_set (i := 3) scParted.nd rfl (Or.inl rfl) (pe_op op_sub (pv 1) (C8.pe_c Gs hr g1 (by rfl) (pa_cons (pe_ix ix_tup (pv 0) pe_int (fun _ _ => rfl)) pa_nil))))
        (pss_cons (ps_if (pt_cmpR op_le (pv 3) pe_int (nomark _))
          (pss_cons (ps_asg (C8.pe_c ih hr (Nat.le_refl _) (by rfl) (pa_cons (pe_ix ix_tup (pv 0) pe_int (fun _ _ => rfl)) (pa_cons (pv 1) (pa_cons (pv 2) pa_nil)))) (pg_tup (by rfl) (pgs_cons (pg_name (i := 4) scParted.nd rfl (Or.inl rfl)) (pgs_cons (pg_name (i := 5) scParted.nd rfl (Or.inl rfl)) pgs_nil))))
          (pss_one (ps_ret (pe_tup (pa_cons (pv 4) (pa_cons (C8.pe_c Gj hr gj (by rfl) (pa_cons (pv 5) (pa_cons (pe_ix ix_tup (pv 0) pe_int (fun _ _ => rfl)) (pa_cons (pe_ix ix_tup (pv 0) pe_int (fun _ _ => rfl)) pa_nil)))) pa_nil)))))) pss_nil)
        (pss_cons (ps_if (pt_cmpR op_ge (pv 3) (pe_ix ix_tup (pe_ix ix_tup (pv 0) pe_int (fun _ _ => rfl)) pe_int (fun _ _ => rfl)) (nomark _))
          (pss_cons (ps_asg (C8.pe_c ih hr (Nat.le_refl _) (by rfl) (pa_cons (pe_ix ix_tup (pv 0) pe_int (fun _ _ => rfl)) (pa_cons (pe_op op_sub (pv 3) (pe_ix ix_tup (pe_ix ix_tup (pv 0) pe_int (fun _ _ => rfl)) pe_int (fun _ _ => rfl))) (pa_cons (pv 2) pa_nil)))) (pg_tup (by rfl) (pgs_cons (pg_name (i := 5) scParted.nd rfl (Or.inl rfl)) (pgs_cons (pg_name (i := 6) scParted.nd rfl (Or.inl rfl)) pgs_nil))))
          (pss_one (ps_ret (pe_tup (pa_cons (C8.pe_c Gj hr gj (by rfl) (pa_cons (pe_ix ix_tup (pv 0) pe_int (fun _ _ => rfl)) (pa_cons (pe_ix ix_tup (pv 0) pe_int (fun _ _ => rfl)) (pa_cons (pv 5) pa_nil)))) (pa_cons (pv 6) pa_nil)))))) pss_nil)
        (pss_cons (ps_asg (C8.pe_c Gc hr g3 (by rfl) (pa_cons (pe_ix ix_tup (pv 0) pe_int (fun _ _ => rfl)) (pa_cons (pv 3) (pa_cons (pv 2) pa_nil)))) (pg_tup (by rfl) (pgs_cons (pg_name (i := 7) scParted.nd rfl (Or.inl rfl)) (pgs_cons (pg_name (i := 8) scParted.nd rfl (Or.inl rfl)) pgs_nil))))
        (pss_one (ps_ret (pe_tup (pa_cons (C8.pe_c Gj hr gj (by rfl) (pa_cons (pe_ix ix_tup (pv 0) pe_int (fun _ _ => rfl)) (pa_cons (pv 7) (pa_cons pe_non pa_nil)))) (pa_cons (C8.pe_c Gj hr gj (by rfl) (pa_cons pe_non (pa_cons (pv 8) (pa_cons (pe_ix ix_tup (pv 0) pe_int (fun _ _ => rfl)) pa_nil)))) pa_nil))))))))), ?_⟩
      refine ⟨_, rfl, _, rfl, ?_⟩
      cases t with
      | nil =>
        obtain rfl : v = .non := hn
        refine iteT ⟨(by show 2 ≤ sizeLine; decide), fun t ht => ?_⟩
        exact q _ t .non .non .nil .nil (same_new ht _) upd_same rfl rfl lok_nil lok_nil List.take_nil.symm List.drop_nil.symm (Nat.zero_le _)
      | node l p r =>
        obtain ⟨a, vl, vp, vr, rfl, ha, hl, hp, hR⟩ := hn
        obtain ⟨okl, okp, okr⟩ := lok_node ok
        have zl := sz_len okl
        have zp := ptx_len okp
        rw [cnt_node] at hc
        have hp' := hp
        obtain ⟨pa, rfl, hpa⟩ := hp'
        rw [ltx_node] at q
        rw [cnt_node] at q
        refine iteF ⟨_, rfl, _, rfl, a, _, 0, _, rfl, rfl, SqT.of ha, rfl, vl, l, rfl, hl, _, _, rfl, rfl, ?_⟩
        refine ⟨_, rfl, _, _, rfl, rfl, _, rfl, ite2 (fun c => ?_) (fun c => ?_)⟩
        · have c' : (pl : Int) - (l.sz : Int) ≤ 0 := of_decide_eq_true c
          refine ⟨_, rfl, a, _, 0, _, rfl, rfl, SqT.of ha, rfl, _, rfl, _, rfl, vl, l, st, z, _, pl, rfl, rfl, hl, hst, okl, by omega, hz, fun H1 tp v1 v2 t1 t2 s1 htp h1 h2 o1 o2 e1 e2 hcnt => ?_⟩
          refine ⟨tp, _, rfl, SqT.of htp, rfl, _, _, rfl, _, _, rfl, rfl, ?_⟩
          refine ⟨_, rfl, _, rfl, _, rfl, a, _, 1, _, rfl, rfl, SqT.of (s1 _ _ ha), rfl, _, rfl, a, _, 2, _, rfl, rfl, SqT.of (s1 _ _ ha), rfl, v2, .ref pa, vr, t2, r, p, rfl, h2, hp.mono (TK.of s1), hR.mono (TK.of s1), by omega, fun v3 H2 t3 s2 h3 e3 => ?_⟩
          refine ⟨(by show 2 ≤ sizeLine; decide), fun u hu => ?_⟩
          have s3 := same_new hu (HO.tup [v1, v3])
          refine q _ u v1 v3 t1 t3 ((s1.trans s2).trans s3) upd_same (h1.mono (TK.of (s2.trans s3))) (h3.mono (TK.of s3)) o1 ?_ ?_ ?_ ?_
          · rw [e3]
            exact lok_app o2 (lok_cons okp okr)
          · rw [e1, take_l (by omega)]
          · rw [e3, ltx_app, e2, drop_l (by omega)]
            rfl
          · have := cnt_toL e3
            rw [List.length_append, List.length_cons] at this
            have e4 : t2.toL.length = t2.cnt := rfl
            have e5 : r.toL.length = r.cnt := rfl
            omega
        · have c' : ¬ (pl : Int) - (l.sz : Int) ≤ 0 := of_decide_eq_false (Bool.eq_false_iff.mpr c)
          refine ⟨_, rfl, _, rfl, a, _, 1, _, rfl, rfl, SqT.of ha, rfl, pa, _, 1, _, rfl, rfl, SqT.of hpa, rfl, _, _, rfl, rfl, _, rfl, ite2 (fun c2 => ?_) (fun c2 => ?_)⟩
          · have c2' : (p.s : Int) ≤ (pl : Int) - (l.sz : Int) := of_decide_eq_true c2
            refine ⟨_, rfl, a, _, 2, _, rfl, rfl, SqT.of ha, rfl, _, rfl, _, rfl, a, _, 1, _, rfl, rfl, SqT.of ha, rfl, pa, _, 1, _, rfl, rfl, SqT.of hpa, rfl, _, _, rfl, rfl, _, rfl, vr, r, st, z, _, pl - l.sz - p.s, rfl, by omega, hR, hst, okr, by omega, hz, fun H1 tp v1 v2 t1 t2 s1 htp h1 h2 o1 o2 e1 e2 hcnt => ?_⟩
            refine ⟨tp, _, rfl, SqT.of htp, rfl, _, _, rfl, _, _, rfl, rfl, ?_⟩
            refine ⟨_, rfl, a, _, 0, _, rfl, rfl, SqT.of (s1 _ _ ha), rfl, _, rfl, a, _, 1, _, rfl, rfl, SqT.of (s1 _ _ ha), rfl, _, rfl, vl, .ref pa, v1, l, t1, p, rfl, hl.mono (TK.of s1), hp.mono (TK.of s1), h1, by omega, fun v3 H2 t3 s2 h3 e3 => ?_⟩
            refine ⟨_, rfl, (by show 2 ≤ sizeLine; decide), fun u hu => ?_⟩
            have s3 := same_new hu (HO.tup [v3, v2])
            refine q _ u v3 v2 t3 t2 ((s1.trans s2).trans s3) upd_same (h3.mono (TK.of s3)) (h2.mono (TK.of (s2.trans s3))) ?_ o2 ?_ ?_ ?_
            · rw [e3]
              exact lok_app okl (lok_cons okp o1)
            · rw [e3, ltx_app, take_r (by omega), take_r (by omega)]
              show ltx z l.toL ++ (ptx z p ++ ltx z t1.toL) = _
              rw [e1, zl, zp]
            · rw [e2, drop_r (by omega), drop_r (by omega), zl, zp]
            · have := cnt_toL e3
              rw [List.length_append, List.length_cons] at this
              have e4 : t1.toL.length = t1.cnt := rfl
              have e5 : l.toL.length = l.cnt := rfl
              omega
          · have c2' : ¬ (p.s : Int) ≤ (pl : Int) - (l.sz : Int) := of_decide_eq_false (Bool.eq_false_iff.mpr c2)
            refine ⟨_, rfl, a, _, 1, _, rfl, rfl, SqT.of ha, rfl, _, rfl, _, rfl, .ref pa, p, st, z, _, pl - l.sz, rfl, by omega, hp, hst, okp, by omega, by omega, hz, fun H1 tp v1 v2 s1 htp h1 h2 => ?_⟩
            obtain ⟨oa, ea⟩ := cutA_ok (a := pl - l.sz) okp (by omega) (by omega)
            obtain ⟨ob, eb⟩ := cutB_ok (a := pl - l.sz) okp (by omega) (by omega)
            refine ⟨tp, _, rfl, SqT.of htp, rfl, _, _, rfl, _, _, rfl, rfl, ?_⟩
            refine ⟨_, rfl, a, _, 0, _, rfl, rfl, SqT.of (s1 _ _ ha), rfl, _, rfl, vl, v1, .non, l, .nil, _, rfl, hl.mono (TK.of s1), h1, rfl, by rw [cnt_nil]; omega, fun v3 H2 t3 s2 h3 e3 => ?_⟩
            refine ⟨_, rfl, _, rfl, a, _, 2, _, rfl, rfl, SqT.of (s2 _ _ (s1 _ _ ha)), rfl, .non, v2, vr, .nil, r, _, rfl, rfl, h2.mono (TK.of s2), hR.mono (TK.of (s1.trans s2)), by rw [cnt_nil]; omega, fun v4 H3 t4 s3 h4 e4 => ?_⟩
            refine ⟨(by show 2 ≤ sizeLine; decide), fun u hu => ?_⟩
            have s5 := same_new hu (HO.tup [v3, v4])
            refine q _ u v3 v4 t3 t4 (((s1.trans s2).trans s3).trans s5) upd_same (h3.mono (TK.of (s3.trans s5))) (h4.mono (TK.of s5)) ?_ ?_ ?_ ?_ ?_
            · rw [e3]
              exact lok_app okl (lok_cons oa lok_nil)
            · rw [e4]
              exact lok_cons ob okr
            · rw [e3, ltx_app, take_r (by omega), take_l (by omega), zl, ← ea]
              show ltx z l.toL ++ (ptx z (cutA z p (pl - l.sz)) ++ []) = _
              rw [List.append_nil]
            · rw [e4, drop_r (by omega), drop_l (by omega), zl, ← eb]
              rfl
            · have q1 := cnt_toL e3
              have q2 := cnt_toL e4
              rw [List.length_append, List.length_cons] at q1
              have e5 : l.toL.length = l.cnt := rfl
              have e6 : (Tr.nil.toL).length = 0 := rfl
              have q2' : t4.cnt = r.toL.length + 1 := q2
              have e7 : r.toL.length = r.cnt := rfl
              omega

/-! ### node_of, sealed -/
def spNodeOf (C : Addr) : Sp := fun vs H Q _ => ∃ (st : Addr) (s x : List Nat), vs = [.ref st, .str (S x)] ∧ StAt C H st s ∧ OkT x ∧ s.length + x.length ≤ 100000 ∧
  ∀ H' v t, But st H H' → StAt C H' st (s ++ x) → NodeAt H' v t → LOk (s ++ x) t.toL → ltx (s ++ x) t.toL = x → t.cnt ≤ 1 → Q v H'
theorem scNodeOf : FnScope ["stock", "text"] ["stock", "text"] (C8.fnScope (top 35)) := ⟨rfl, rfl, rfl, by decide +kernel, rfl, by decide +kernel, by decide +kernel⟩
theorem ok_nodeOf {M : Nat} (D : Df K mg "node_of" "node_of" (top 35) ["stock", "text"]) (B : Bt mg) (Gj : C8.Cal P w K mg base (M + 4) "joined" (spJoined M) []) (Gp : C8.Met P w K mg base 3 C "put" (spPut C) []) : C8.Cal P w K mg base (M + 5) "node_of" (spNodeOf C) [] := by
  refine D.cal scNodeOf (fun vs H Q E h => ?_) (fun f cdv A outer s H vs Q E hr h => ?_)
  · obtain ⟨_, _, _, rfl, _⟩ := h
    rfl
  · obtain ⟨st, z, x, rfl, hst, ok, hz, q⟩ := h
    have g3 : 3 ≤ M + 4 := by omega
    refine ⟨_, pss_cons (ps_if (pt_cmpR op_eq (pv 1) pe_str (nomark _)) (pss_one (ps_ret pe_non)) pss_nil)
      (pss_one (ps_ret (C8.pe_c Gj hr (Nat.le_refl _) (by rfl) (pa_cons pe_non (pa_cons (pe_tup (pa_cons (C8.pe_mt Gp hr g3 (pv 0) (pa_cons (pv 1) pa_nil)) (pa_cons (pe_callB call_len_str (by rfl) B.len PySem.boot_len (pa_cons (pv 1) pa_nil)) (pa_cons (pe_m1 PySem.F.slot_str_count PySem.F.type_str_count mt_count (pv 1) pe_str) pa_nil)))) (pa_cons pe_non pa_nil)))))), ?_⟩
    refine ⟨_, rfl, rfl, _, rfl, ?_⟩
    by_cases hx : x = []
    · subst hx
      refine iteD' (congrArg V.str em_S.symm) (q H .non .nil (But.refl _ _) ?_ rfl lok_nil rfl (Nat.zero_le _))
      rw [List.append_nil]
      exact hst
    · refine iteD (S_ne hx) ?_
      have hst' := hst
      obtain ⟨dx, hsx⟩ := hst'
      refine ⟨_, rfl, st, dx, _, rfl, hsx, lk1 (by decide +kernel), _, rfl, st, z, x, rfl, hst, ok, hz, fun H1 b1 st1 => ?_⟩
      refine ⟨_, rfl, _, rfl, S_le (by omega), _, rfl, ⟨_, rfl⟩, _, _, rfl, rfl, ?_⟩
      rw [cnt10]
      refine ⟨(by show 3 ≤ sizeLine; decide), fun t ht => ?_⟩
      rw [S_len]
      have s1 := same_new ht (HO.tup [V.int (z.length : Int), V.int (x.length : Int), V.int ((x.count 10 : Nat) : Int)])
      obtain ⟨pk, pe⟩ := pcok_new z x hx
      refine ⟨.non, .ref t, .non, .nil, .nil, ⟨z.length, x.length, x.count 10⟩, rfl, rfl, ⟨t, rfl, upd_same⟩, rfl, Nat.zero_le _, fun v2 H2 t2 s2 h2 e2 => ?_⟩
      refine q _ v2 t2 (b1.trans (But.of (s1.trans s2))) (st1.mono (s1.trans s2)) h2 ?_ ?_ ?_
      · rw [e2]
        exact lok_cons pk lok_nil
      · rw [e2]
        show ptx (z ++ x) _ ++ [] = x
        rw [List.append_nil, pe]
      · rw [cnt_toL e2]
        exact Nat.le_refl _
def spSealed (n : Nat) : Sp := fun vs H Q _ => ∃ (vl vr : V) (l r : Tr) (s : List Nat), vs = [vl, vr] ∧ NodeAt H vl l ∧ NodeAt H vr r ∧ LOk s l.toL ∧ LOk s r.toL ∧ l.cnt + r.cnt ≤ n ∧
  ∀ v H' t, Same H H' → NodeAt H' v t → LOk s t.toL → ltx s t.toL = ltx s l.toL ++ ltx s r.toL → t.cnt ≤ l.cnt + r.cnt → Q v H'
theorem scSealed : FnScope ["left", "right", "rest", "last", "first", "others"] ["left", "right"] (C8.fnScope (top 36)) := ⟨rfl, rfl, rfl, by decide +kernel, rfl, by decide +kernel, by decide +kernel⟩
theorem ok_sealed {n : Nat} (D : Df K mg "sealed" "sealed" (top 36) ["left", "right"]) (Gm : C8.Cal P w K mg base (n + 5) "met" (spMet n) []) (Gl : C8.Cal P w K mg base (n + 4) "last_off" (spLast n) []) (Gf : C8.Cal P w K mg base (n + 4) "first_off" (spFirst n) [])
    (Gj : C8.Cal P w K mg base (n + 4) "joined" (spJoined n) []) : C8.Cal P w K mg base (n + 6) "sealed" (spSealed n) [] := by
  refine D.cal (k := n + 5) scSealed (fun vs H Q E h => ?_) (fun f cdv A outer s H vs Q E hr h => ?_)
  · obtain ⟨_, _, _, _, _, rfl, _⟩ := h
    rfl
  · obtain ⟨vl, vr, l, r, z, rfl, hl, hR, okl, okr, hc, q⟩ := h
    have g4 : n + 4 ≤ n + 5 := by omega
    refine ⟨_, pss_cons (ps_if (PW.pt (pw_or (pt_cmp (pc_isN (pv 0))) (pw_or1 (pt_cmp (pc_isN (pv 1)))))) (pss_one (ps_ret (C8.pe_c Gm hr (Nat.le_refl _) (by rfl) (pa_cons (pv 0) (pa_cons (pv 1) pa_nil))))) pss_nil)
      (pss_cons (ps_asg (C8.pe_c Gl hr g4 (by rfl) (pa_cons (pv 0) pa_nil)) (pg_tup (by rfl) (pgs_cons (pg_name (i := 2) scSealed.nd rfl (Or.inl rfl)) (pgs_cons (pg_name (i := 3) scSealed.nd rfl (Or.inl rfl)) pgs_nil))))
      (pss_cons (ps_asg (C8.pe_c Gf hr g4 (by rfl) (pa_cons (pv 1) pa_nil)) (pg_tup (by rfl) (pgs_cons (pg_name (i := 4) scSealed.nd rfl (Or.inl rfl)) (pgs_cons (pg_name (i := 5) scSealed.nd rfl (Or.inl rfl)) pgs_nil))))
      (pss_cons (ps_if (pt_cmpR op_eq (pe_op op_add (pe_ix ix_tup (pv 3) pe_int (fun _ _ => rfl)) (pe_ix ix_tup (pv 3) pe_int (fun _ _ => rfl))) (pe_ix ix_tup (pv 4) pe_int (fun _ _ => rfl)) (nomark _))
        (pss_one (ps_ret (C8.pe_c Gj hr g4 (by rfl) (pa_cons (pv 2) (pa_cons (pe_tup (pa_cons (pe_ix ix_tup (pv 3) pe_int (fun _ _ => rfl)) (pa_cons (pe_op op_add (pe_ix ix_tup (pv 3) pe_int (fun _ _ => rfl)) (pe_ix ix_tup (pv 4) pe_int (fun _ _ => rfl))) (pa_cons (pe_op op_add (pe_ix ix_tup (pv 3) pe_int (fun _ _ => rfl)) (pe_ix ix_tup (pv 4) pe_int (fun _ _ => rfl))) pa_nil)))) (pa_cons (pv 5) pa_nil)))))) pss_nil)
      (pss_one (ps_ret (C8.pe_c Gj hr g4 (by rfl) (pa_cons (pv 2) (pa_cons (pv 3) (pa_cons (pv 1) pa_nil))))))))), ?_⟩
    refine ⟨_, rfl, _, rfl, ?_⟩
    cases l with
    | nil =>
      obtain rfl : vl = .non := hl
      refine iteT (iteT ⟨_, rfl, _, rfl, .non, vr, .nil, r, rfl, rfl, hR, hc, fun v H1 t s1 h1 e1 => q v H1 t s1 h1 ?_ ?_ ?_⟩)
      · rw [e1]
        exact okr
      · rw [e1]
        rfl
      · rw [cnt_toL e1]
        show r.cnt ≤ 0 + r.cnt
        omega
    | node ll lp lr =>
      have hl' := hl
      obtain ⟨b, _, _, _, rfl, _⟩ := hl'
      refine iteF ⟨_, rfl, _, rfl, ?_⟩
      cases r with
      | nil =>
        obtain rfl : vr = .non := hR
        refine iteT ⟨_, rfl, _, rfl, .ref b, .non, _, .nil, rfl, hl, rfl, hc, fun v H1 t s1 h1 e1 => q v H1 t s1 h1 ?_ ?_ ?_⟩
        · rw [e1]
          exact lok_app okl lok_nil
        · rw [e1, ltx_app]
        · rw [cnt_toL e1, List.length_append]
          exact Nat.le_refl _
      | node rl rp rr =>
        have hR' := hR
        obtain ⟨c, _, _, _, rfl, _⟩ := hR'
        have c0 : (Tr.node ll lp lr).cnt = (Tr.node ll lp lr).toL.length := rfl
        have c1 : (Tr.node rl rp rr).cnt = (Tr.node rl rp rr).toL.length := rfl
        refine iteF ⟨_, rfl, .ref b, ll, lr, lp, rfl, hl, by omega, fun H1 t v1 v2 t1 p1 s1 ht h1 h2 e1 => ?_⟩
        refine ⟨t, _, rfl, SqT.of ht, rfl, _, _, rfl, _, _, rfl, rfl, ?_⟩
        refine ⟨_, rfl, .ref c, rl, rr, rp, rfl, hR.mono (TK.of s1), by omega, fun H2 u v3 v4 t2 p2 s2 hu h3 h4 e2 => ?_⟩
        refine ⟨u, _, rfl, SqT.of hu, rfl, _, _, rfl, _, _, rfl, rfl, ?_⟩
        obtain ⟨pa, rfl, hpa⟩ := h2
        obtain ⟨pb, rfl, hpb⟩ := h4
        have hpa2 := s2 _ _ hpa
        have o1 := okl
        rw [e1] at o1
        have o2 := okr
        rw [e2] at o2
        have l1 : (Tr.node ll lp lr).toL.length = t1.toL.length + 1 := by
          rw [e1, List.length_append]
          rfl
        have l2 : (Tr.node rl rp rr).toL.length = t2.toL.length + 1 := by
          rw [e2]
          rfl
        have k1 : t1.toL.length = t1.cnt := rfl
        have k2 : t2.toL.length = t2.cnt := rfl
        refine ⟨_, rfl, pa, _, 0, _, rfl, rfl, SqT.of hpa2, rfl, _, rfl, pa, _, 1, _, rfl, rfl, SqT.of hpa2, rfl, _, _, rfl, rfl, _, rfl, pb, _, 0, _, rfl, rfl, SqT.of hpb, rfl, rfl, _, rfl, ite2 (fun cc => ?_) (fun cc => ?_)⟩
        · have ce : V.int ((p1.b : Int) + (p1.s : Int)) = V.int (p2.b : Int) := of_decide_eq_true cc
          have ce' : p1.b + p1.s = p2.b := by
            have := V.int.inj ce
            omega
          obtain ⟨gk, ge⟩ := glue_ok (lok_hd (lok_r o1)) (lok_hd o2) ce'
          refine ⟨_, rfl, _, rfl, pa, _, 0, _, rfl, rfl, SqT.of hpa2, rfl, _, rfl, pa, _, 1, _, rfl, rfl, SqT.of hpa2, rfl, _, rfl, pb, _, 1, _, rfl, rfl, SqT.of hpb, rfl, _, _, rfl, rfl, _, rfl, pa, _, 2, _, rfl, rfl, SqT.of hpa2, rfl, _, rfl, pb, _, 2, _, rfl, rfl, SqT.of hpb, rfl, _, _, rfl, rfl, (by show 3 ≤ sizeLine; decide), fun x hx => ?_⟩
          have s3 := same_new hx (HO.tup [V.int (p1.b : Int), V.int ((p1.s : Int) + (p2.s : Int)), V.int ((p1.e : Int) + (p2.e : Int))])
          refine ⟨_, rfl, v1, .ref x, v3, t1, t2, glue p1 p2, rfl, h1.mono (TK.of (s2.trans s3)), ⟨x, rfl, ?_⟩, h3.mono (TK.of s3), by omega, fun v H3 t3 s4 h5 e3 => q v H3 t3 (((s1.trans s2).trans s3).trans s4) h5 ?_ ?_ ?_⟩
          · rw [upd_same]
            have q1 : ((p1.s : Int) + (p2.s : Int)) = ((glue p1 p2).s : Int) := by
              show _ = ((p1.s + p2.s : Nat) : Int)
              omega
            have q2 : ((p1.e : Int) + (p2.e : Int)) = ((glue p1 p2).e : Int) := by
              show _ = ((p1.e + p2.e : Nat) : Int)
              omega
            rw [← q1, ← q2]
            rfl
          · rw [e3]
            exact lok_app (lok_l o1) (lok_cons gk (lok_tl o2))
          · rw [e3, e1, e2, ltx_app, ltx_app]
            show ltx z t1.toL ++ (ptx z (glue p1 p2) ++ ltx z t2.toL) = ltx z t1.toL ++ (ptx z p1 ++ []) ++ (ptx z p2 ++ ltx z t2.toL)
            rw [ge, List.append_nil, List.append_assoc, List.append_assoc]
          · rw [cnt_toL e3, List.length_append, List.length_cons]
            omega
        · refine ⟨_, rfl, _, rfl, _, rfl, v1, .ref pa, .ref c, t1, _, p1, rfl, h1.mono (TK.of s2), ⟨pa, rfl, hpa2⟩, hR.mono (TK.of (s1.trans s2)), by omega, fun v H3 t3 s4 h5 e3 => q v H3 t3 ((s1.trans s2).trans s4) h5 ?_ ?_ ?_⟩
          · rw [e3]
            exact lok_app (lok_l o1) (lok_cons (lok_hd (lok_r o1)) okr)
          · rw [e3, e1, ltx_app, ltx_app]
            show ltx z t1.toL ++ (ptx z p1 ++ ltx z (Tr.node rl rp rr).toL) = ltx z t1.toL ++ (ptx z p1 ++ []) ++ ltx z (Tr.node rl rp rr).toL
            rw [List.append_nil, List.append_assoc]
          · rw [cnt_toL e3, List.length_append, List.length_cons]
            omega
end
end Ink
end
section
namespace Ink
open PySem PySem.Spec PyProof.Rows L2 SX

/-! ### mathematics of the readers -/
theorem sub_congr {b b' e e' : Int} {l : List Nat} (h1 : b = b') (h2 : e = e') : sub b e l = sub b' e' l := by rw [h1, h2]
/-- what part_of reckons -/
theorem part_math {L A R : List Nat} {b e : Int} (h : 0 ≤ b) :
    sub b e (L ++ (A ++ R)) = (sub b (if (L.length : Int) < e then (L.length : Int) else e) L ++
        sub ((if (L.length : Int) > b then (L.length : Int) else b) - L.length) ((if (L.length : Int) + (A.length : Int) < e then (L.length : Int) + (A.length : Int) else e) - L.length) A) ++
      sub ((if (L.length : Int) + (A.length : Int) > b then (L.length : Int) + (A.length : Int) else b) - ((L.length : Int) + (A.length : Int))) (e - ((L.length : Int) + (A.length : Int))) R := by
  have h2 : 0 ≤ (if (L.length : Int) > b then (L.length : Int) else b) - L.length := by
    by_cases q : (L.length : Int) > b
    · rw [if_pos q]
      omega
    · rw [if_neg q]
      omega
  rw [sub_app h, sub_app h2, ← List.append_assoc]
  congr 1
  · congr 1
    refine sub_congr rfl ?_
    by_cases q : (L.length : Int) + (A.length : Int) < e
    · rw [if_pos q, if_pos (by omega)]
      omega
    · rw [if_neg q, if_neg (by omega)]
  · refine sub_congr ?_ (by omega)
    by_cases q : (L.length : Int) > b
    · rw [if_pos q]
      by_cases q2 : (L.length : Int) + (A.length : Int) > b
      · rw [if_pos q2]
        by_cases q3 : (A.length : Int) > (L.length : Int) - L.length
        · rw [if_pos q3]
          omega
        · rw [if_neg q3]
          omega
      · omega
    · rw [if_neg q]
      by_cases q2 : (L.length : Int) + (A.length : Int) > b
      · rw [if_pos q2, if_pos (by omega)]
        omega
      · rw [if_neg q2, if_neg (by omega)]
        omega
theorem posE_nl0 (r : List Nat) : posE (10 :: r) 0 = 0 := rfl
theorem posE_nl (r : List Nat) (k : Nat) : posE (10 :: r) (k + 1) = 1 + posE r k := rfl
theorem posE_ne {c : Nat} (h : ¬ c = 10) (r : List Nat) (k : Nat) : posE (c :: r) k = 1 + posE r k := if_neg h
theorem posE_lt : ∀ {l : List Nat} {k : Nat}, k < l.count 10 → posE l k < l.length
  | [], k, h => absurd h (by rw [List.count_nil]; omega)
  | c :: r, k, h => by
    rw [List.length_cons]
    by_cases hc : c = 10
    · subst hc
      rw [List.count_cons_self] at h
      cases k with
      | zero =>
        rw [posE_nl0]
        exact Nat.succ_pos _
      | succ k =>
        have ih := posE_lt (l := r) (k := k) (by omega)
        rw [posE_nl]
        omega
    · rw [List.count_cons_of_ne hc] at h
      have ih := posE_lt (l := r) (k := k) h
      rw [posE_ne hc]
      omega
theorem jn_sum : ∀ {ls : List (List Nat)}, ls ≠ [] → (ls.map List.length).sum + ls.length = (jn ls).length + 1
  | [], h => absurd rfl h
  | [x], _ => by
    show x.length + 0 + 1 = x.length + 1
    omega
  | x :: y :: r, _ => by
    have ih := jn_sum (ls := y :: r) (List.cons_ne_nil _ _)
    show x.length + ((y :: r).map List.length).sum + ((y :: r).length + 1) = (x ++ 10 :: jn (y :: r)).length + 1
    rw [List.length_append, List.length_cons (as := jn (y :: r))]
    omega

section
variable {P : Program} {w : World} {K : PySem.W.Frag} {mg : Str → Option Value} {base : Heap} {k : Nat} {C : Addr}

/-! ### part_of -/
def spPartOf (C : Addr) (n : Nat) : Sp := fun vs H Q _ => ∃ (v : V) (t : Tr) (st : Addr) (s : List Nat) (b e : Int), vs = [v, .int b, .int e, .ref st] ∧ 0 ≤ b ∧ NodeAt H v t ∧ StAt C H st s ∧ LOk s t.toL ∧ t.cnt ≤ n ∧ s.length ≤ 100000 ∧ t.sz ≤ 100000 ∧
  Q (.str (S (sub b e (ltx s t.toL)))) H
theorem scPartOf : FnScope ["node", "begin", "end", "stock", "first", "behind", "text", "low", "high"] ["node", "begin", "end", "stock"] (C8.fnScope (top 37)) := ⟨rfl, rfl, rfl, by decide +kernel, rfl, by decide +kernel, by decide +kernel⟩
theorem ok_partOf (D : Df K mg "part_of" "part_of" (top 37) ["node", "begin", "end", "stock"]) (B : Bt mg) (Gs : C8.Cal P w K mg base 1 "size_of_nodes" (spGet Tr.sz) []) (Gr : C8.Met P w K mg base 2 C "read" (spRead C) []) :
    ∀ n : Nat, C8.Cal P w K mg base (n + 3) "part_of" (spPartOf C n) []
  | 0 => by
    refine D.cal scPartOf (fun vs H Q E h => ?_) (fun f cdv A outer s H vs Q E hr h => ?_)
    · obtain ⟨_, _, _, _, _, _, rfl, _⟩ := h
      rfl
    · obtain ⟨v, t, st, z, b, e, rfl, h0, hn, hst, ok, hc, hz, ht, q⟩ := h
      obtain rfl := tr_nil hc
      obtain rfl : v = .non := hn
      refine ⟨_, pss_cons (ps_if (PW.pt (pw_or (pt_cmp (pc_isN (pv 0))) (pw_or1 (pt_cmpR op_ge (pv 1) (pv 2) (nomark _))))) (pss_one (ps_ret pe_str)) pss_nil) pss_never, ?_⟩
      refine ⟨_, rfl, _, rfl, iteT (iteT ?_)⟩
      show Q (.str "") H
      rw [em_S]
      rw [show ltx z (Tr.nil).toL = [] from rfl, sub_empty] at q
      exact q
  | n + 1 => by
    have ih := ok_partOf D B Gs Gr n
    refine D.cal (k := n + 3) scPartOf (fun vs H Q E h => ?_) (fun f cdv A outer s H vs Q E hr h => ?_)
    · obtain ⟨_, _, _, _, _, _, rfl, _⟩ := h
      rfl
    · obtain ⟨v, t, st, z, b, e, rfl, h0, hn, hst, ok, hc, hz, ht, q⟩ := h
      have g1 : 1 ≤ n + 3 := by omega
      have g2 : 2 ≤ n + 3 := by omega
      refine ⟨_, pss_cons (ps_if (PW.pt (pw_or (pt_cmp (pc_isN (pv 0))) (pw_or1 (pt_cmpR op_ge (pv 1) (pv 2) (nomark _))))) (pss_one (ps_ret pe_str)) pss_nil)
        (pss_cons (ps_set (i := 4) scPartOf.nd rfl (Or.inl rfl) (C8.pe_c Gs hr g1 (by rfl) (pa_cons (pe_ix ix_tup (pv 0) pe_int (fun _ _ => rfl)) pa_nil)))
        (pss_cons (ps_set (i := 5) scPartOf.nd rfl (Or.inl rfl) (pe_op op_add (pv 4) (pe_ix ix_tup (pe_ix ix_tup (pv 0) pe_int (fun _ _ => rfl)) pe_int (fun _ _ => rfl))))
        (pss_cons (ps_set (i := 6) scPartOf.nd rfl (Or.inl rfl) (C8.pe_c ih hr (Nat.le_refl _) (by rfl) (pa_cons (pe_ix ix_tup (pv 0) pe_int (fun _ _ => rfl)) (pa_cons (pv 1) (pa_cons (pe_callB (call_min2 rfl) (by rfl) B.min boot_min (pa_cons (pv 2) (pa_cons (pv 4) pa_nil))) (pa_cons (pv 3) pa_nil))))))
        (pss_cons (ps_set (i := 7) scPartOf.nd rfl (Or.inl rfl) (pe_callB (call_max2 rfl) (by rfl) B.max boot_max (pa_cons (pv 1) (pa_cons (pv 4) pa_nil))))
        (pss_cons (ps_set (i := 8) scPartOf.nd rfl (Or.inl rfl) (pe_callB (call_min2 rfl) (by rfl) B.min boot_min (pa_cons (pv 2) (pa_cons (pv 5) pa_nil))))
        (C8.pss_cut (ps_if (pt_cmpR op_lt (pv 7) (pv 8) (nomark _)) (pss_one (ps_set (i := 6) scPartOf.nd rfl (Or.inl rfl) (pe_op op_add_str (pv 6) (C8.pe_mt Gr hr g2 (pv 3) (pa_cons (pe_op op_sub (pe_op op_add (pe_ix ix_tup (pe_ix ix_tup (pv 0) pe_int (fun _ _ => rfl)) pe_int (fun _ _ => rfl)) (pv 7)) (pv 4)) (pa_cons (pe_op op_sub (pv 8) (pv 7)) pa_nil)))))) pss_nil)
        (pss_one (ps_ret (pe_op op_add_str (pv 6) (C8.pe_c ih hr (Nat.le_refl _) (by rfl) (pa_cons (pe_ix ix_tup (pv 0) pe_int (fun _ _ => rfl)) (pa_cons (pe_op op_sub (pe_callB (call_max2 rfl) (by rfl) B.max boot_max (pa_cons (pv 1) (pa_cons (pv 5) pa_nil))) (pv 5)) (pa_cons (pe_op op_sub (pv 2) (pv 5)) (pa_cons (pv 3) pa_nil))))))))))))))
        , ?_⟩
      refine ⟨_, rfl, _, rfl, ?_⟩
      cases t with
      | nil =>
        obtain rfl : v = .non := hn
        refine iteT (iteT ?_)
        show Q (.str "") H
        rw [em_S]
        rw [show ltx z (Tr.nil).toL = [] from rfl, sub_empty] at q
        exact q
      | node l p r =>
        obtain ⟨a, vl, vp, vr, rfl, ha, hl, hp, hR⟩ := hn
        obtain ⟨okl, okp, okr⟩ := lok_node ok
        have zl := sz_len okl
        have zp := ptx_len okp
        have zr := sz_len okr
        have zt : l.sz + p.s + r.sz ≤ 100000 := ht
        rw [cnt_node] at hc
        obtain ⟨pa, rfl, hpa⟩ := hp
        refine iteF ⟨_, rfl, _, rfl, _, _, rfl, rfl, _, rfl, ite2 (fun c => ?_) (fun c => ?_)⟩
        · have c' : e ≤ b := of_decide_eq_true c
          show Q (.str "") H
          rw [em_S]
          rw [sub_nil c'] at q
          exact q
        · have c' : ¬ e ≤ b := of_decide_eq_false (Bool.eq_false_iff.mpr c)
          refine ⟨_, rfl, a, _, 0, _, rfl, rfl, SqT.of ha, rfl, vl, l, rfl, hl, ?_⟩
          refine ⟨_, rfl, _, rfl, a, _, 1, _, rfl, rfl, SqT.of ha, rfl, pa, _, 1, _, rfl, rfl, SqT.of hpa, rfl, _, _, rfl, rfl, ?_⟩
          refine ⟨_, rfl, a, _, 0, _, rfl, rfl, SqT.of ha, rfl, _, rfl, _, rfl, _, rfl, _, _, rfl, _, rfl, vl, l, st, z, b, _, rfl, h0, hl, hst, okl, by omega, hz, by omega, ?_⟩
          refine ⟨_, rfl, _, rfl, _, _, rfl, ?_⟩
          refine ⟨_, rfl, _, rfl, _, _, rfl, ?_⟩
          have pm := part_math (L := ltx z l.toL) (A := ptx z p) (R := ltx z r.toL) (b := b) (e := e) h0
          rw [zl, zp] at pm
          have hl1 : (sub b (if (l.sz : Int) < e then (l.sz : Int) else e) (ltx z l.toL)).length ≤ l.sz := by
            rw [← zl]
            exact sub_len
          have hl2 : ∀ b' e', (sub b' e' (ptx z p)).length ≤ p.s := fun b' e' => by
            rw [← zp]
            exact sub_len
          have hl3 : ∀ b' e', (sub b' e' (ltx z r.toL)).length ≤ r.sz := fun b' e' => by
            rw [← zr]
            exact sub_len
          refine ⟨fun σ' H' => H' = H ∧ σ' = [some (.ref a), some (.int b), some (.int e), some (.ref st), some (.int (l.sz : Int)), some (.int ((l.sz : Int) + (p.s : Int))),
            some (.str (S (sub b (if (l.sz : Int) < e then (l.sz : Int) else e) (ltx z l.toL) ++ sub ((if (l.sz : Int) > b then (l.sz : Int) else b) - l.sz) ((if (l.sz : Int) + (p.s : Int) < e then (l.sz : Int) + (p.s : Int) else e) - l.sz) (ptx z p)))),
            some (.int (if (l.sz : Int) > b then (l.sz : Int) else b)), some (.int (if (l.sz : Int) + (p.s : Int) < e then (l.sz : Int) + (p.s : Int) else e))], ?_, ?_⟩
          · refine ⟨_, rfl, _, rfl, _, _, rfl, rfl, _, rfl, ite2 (fun c2 => ?_) (fun c2 => ?_)⟩
            · have c2' : (if (l.sz : Int) > b then (l.sz : Int) else b) < (if (l.sz : Int) + (p.s : Int) < e then (l.sz : Int) + (p.s : Int) else e) := of_decide_eq_true c2
              generalize hlow : (if (l.sz : Int) > b then (l.sz : Int) else b) = low at c2' ⊢
              generalize hhigh : (if (l.sz : Int) + (p.s : Int) < e then (l.sz : Int) + (p.s : Int) else e) = high at c2' ⊢
              have b1 : (l.sz : Int) ≤ low := by
                rw [← hlow]
                by_cases qq : (l.sz : Int) > b
                · rw [if_pos qq]
                  exact Int.le_refl _
                · rw [if_neg qq]
                  omega
              have b2 : high ≤ (l.sz : Int) + (p.s : Int) := by
                rw [← hhigh]
                by_cases qq : (l.sz : Int) + (p.s : Int) < e
                · rw [if_pos qq]
                  exact Int.le_refl _
                · rw [if_neg qq]
                  omega
              have hst' := hst
              obtain ⟨dx, hsx⟩ := hst'
              have fit := okp.fit
              refine ⟨_, rfl, _, rfl, st, dx, _, rfl, hsx, lk1 (by decide +kernel), _, rfl, a, _, 1, _, rfl, rfl, SqT.of ha, rfl, pa, _, 0, _, rfl, rfl, SqT.of hpa, rfl, _, rfl, _, _, rfl, rfl, _, rfl, _, _, rfl, rfl, _, rfl, _, rfl, _, _, rfl, rfl, st, z, _, _, p.b + (low - l.sz).toNat, (high - low).toNat, rfl, hst, by omega, by omega, by omega, hz, ?_⟩
              have e1 : sub (low - l.sz) (high - l.sz) (ptx z p) = (z.drop (p.b + (low - l.sz).toNat)).take (high - low).toNat := by
                rw [sub_ptx okp (by omega) (by omega) (by omega)]
                congr 1
                omega
              have l2 := hl2 (low - l.sz) (high - l.sz)
              rw [e1] at l2 ⊢
              refine ⟨_, _, rfl, rfl, ?_, ?_⟩
              · rw [S_len, S_len]
                exact sz_le (by omega)
              · rw [S_cat]
                exact ⟨rfl, rfl⟩
            · have c2' : ¬ (if (l.sz : Int) > b then (l.sz : Int) else b) < (if (l.sz : Int) + (p.s : Int) < e then (l.sz : Int) + (p.s : Int) else e) := of_decide_eq_false (Bool.eq_false_iff.mpr c2)
              refine ⟨rfl, ?_⟩
              rw [sub_nil (b := (if (l.sz : Int) > b then (l.sz : Int) else b) - l.sz) (by omega), List.append_nil]
              rfl
          · rintro σ' H' ⟨rfl, rfl⟩
            refine ⟨_, rfl, _, rfl, a, _, 2, _, rfl, rfl, SqT.of ha, rfl, _, rfl, _, rfl, _, _, rfl, _, rfl, _, _, rfl, rfl, _, rfl, _, rfl, _, _, rfl, rfl, _, rfl, vr, r, st, z, _, _, rfl, ?_, hR, hst, okr, by omega, hz, by omega, _, _, rfl, rfl, ?_, ?_⟩
            · by_cases qq : (l.sz : Int) + (p.s : Int) > b
              · rw [if_pos qq]
                omega
              · rw [if_neg qq]
                omega
            · rw [S_len, S_len, List.length_append]
              have a1 := hl2 ((if (l.sz : Int) > b then (l.sz : Int) else b) - l.sz) ((if (l.sz : Int) + (p.s : Int) < e then (l.sz : Int) + (p.s : Int) else e) - l.sz)
              have a2 := hl3 ((if (l.sz : Int) + (p.s : Int) > b then (l.sz : Int) + (p.s : Int) else b) - ((l.sz : Int) + (p.s : Int))) (e - ((l.sz : Int) + (p.s : Int)))
              exact sz_le (by omega)
            · rw [S_cat, ← pm]
              rw [ltx_node] at q
              exact q

/-! ### ends_ahead -/
def spEndsA (C : Addr) (n : Nat) : Sp := fun vs H Q _ => ∃ (v : V) (t : Tr) (st : Addr) (s : List Nat) (i : Int), vs = [v, .int i, .ref st] ∧ NodeAt H v t ∧ StAt C H st s ∧ LOk s t.toL ∧ t.cnt ≤ n ∧ s.length ≤ 100000 ∧ Q (.int ((((ltx s t.toL).take i.toNat).count 10 : Nat) : Int)) H
theorem scEndsA : FnScope ["node", "place", "stock", "at"] ["node", "place", "stock"] (C8.fnScope (top 38)) := ⟨rfl, rfl, rfl, by decide +kernel, rfl, by decide +kernel, by decide +kernel⟩
theorem ok_endsA (D : Df K mg "ends_ahead" "ends_ahead" (top 38) ["node", "place", "stock"]) (Gs : C8.Cal P w K mg base 1 "size_of_nodes" (spGet Tr.sz) []) (Ge : C8.Cal P w K mg base 1 "ends_of" (spGet Tr.en) []) (Gr : C8.Met P w K mg base 2 C "read" (spRead C) []) :
    ∀ n : Nat, C8.Cal P w K mg base (n + 3) "ends_ahead" (spEndsA C n) []
  | 0 => by
    refine D.cal scEndsA (fun vs H Q E h => ?_) (fun f cdv A outer s H vs Q E hr h => ?_)
    · obtain ⟨_, _, _, _, _, rfl, _⟩ := h
      rfl
    · obtain ⟨v, t, st, z, i, rfl, hn, hst, ok, hc, hz, q⟩ := h
      obtain rfl := tr_nil hc
      obtain rfl : v = .non := hn
      refine ⟨_, pss_cons (ps_if (PW.pt (pw_or (pt_cmp (pc_isN (pv 0))) (pw_or1 (pt_cmpR op_le (pv 1) pe_int (nomark _))))) (pss_one (ps_ret pe_int)) pss_nil) pss_never, ?_⟩
      refine ⟨_, rfl, _, rfl, iteT (iteT ?_)⟩
      rw [show ltx z (Tr.nil).toL = [] from rfl, List.take_nil] at q
      exact q
  | n + 1 => by
    have ih := ok_endsA D Gs Ge Gr n
    refine D.cal (k := n + 3) scEndsA (fun vs H Q E h => ?_) (fun f cdv A outer s H vs Q E hr h => ?_)
    · obtain ⟨_, _, _, _, _, rfl, _⟩ := h
      rfl
    · obtain ⟨v, t, st, z, i, rfl, hn, hst, ok, hc, hz, q⟩ := h
      have g1 : 1 ≤ n + 3 := by omega
      have g2 : 2 ≤ n + 3 := by omega
      refine ⟨_, pss_cons (ps_if (PW.pt (pw_or (pt_cmp (pc_isN (pv 0))) (pw_or1 (pt_cmpR op_le (pv 1) pe_int (nomark _))))) (pss_one (ps_ret pe_int)) pss_nil)
        (pss_cons (ps_set (i := 3) scEndsA.nd rfl (Or.inl rfl) (pe_op op_sub (pv 1) (C8.pe_c Gs hr g1 (by rfl) (pa_cons (pe_ix ix_tup (pv 0) pe_int (fun _ _ => rfl)) pa_nil))))
        (pss_cons (ps_if (pt_cmpR op_le (pv 3) pe_int (nomark _)) (pss_one (ps_ret (C8.pe_c ih hr (Nat.le_refl _) (by rfl) (pa_cons (pe_ix ix_tup (pv 0) pe_int (fun _ _ => rfl)) (pa_cons (pv 1) (pa_cons (pv 2) pa_nil)))))) pss_nil)
        (pss_cons (ps_if (pt_cmpR op_lt (pv 3) (pe_ix ix_tup (pe_ix ix_tup (pv 0) pe_int (fun _ _ => rfl)) pe_int (fun _ _ => rfl)) (nomark _))
          (pss_one (ps_ret (pe_op op_add (C8.pe_c Ge hr g1 (by rfl) (pa_cons (pe_ix ix_tup (pv 0) pe_int (fun _ _ => rfl)) pa_nil)) (pe_m1 PySem.F.slot_str_count PySem.F.type_str_count mt_count (C8.pe_mt Gr hr g2 (pv 2) (pa_cons (pe_ix ix_tup (pe_ix ix_tup (pv 0) pe_int (fun _ _ => rfl)) pe_int (fun _ _ => rfl)) (pa_cons (pv 3) pa_nil))) pe_str)))) pss_nil)
        (pss_one (ps_ret (pe_op op_add (pe_op op_add (C8.pe_c Ge hr g1 (by rfl) (pa_cons (pe_ix ix_tup (pv 0) pe_int (fun _ _ => rfl)) pa_nil)) (pe_ix ix_tup (pe_ix ix_tup (pv 0) pe_int (fun _ _ => rfl)) pe_int (fun _ _ => rfl)))
          (C8.pe_c ih hr (Nat.le_refl _) (by rfl) (pa_cons (pe_ix ix_tup (pv 0) pe_int (fun _ _ => rfl)) (pa_cons (pe_op op_sub (pv 3) (pe_ix ix_tup (pe_ix ix_tup (pv 0) pe_int (fun _ _ => rfl)) pe_int (fun _ _ => rfl))) (pa_cons (pv 2) pa_nil)))))))))), ?_⟩
      refine ⟨_, rfl, _, rfl, ?_⟩
      cases t with
      | nil =>
        obtain rfl : v = .non := hn
        refine iteT (iteT ?_)
        rw [show ltx z (Tr.nil).toL = [] from rfl, List.take_nil] at q
        exact q
      | node l p r =>
        obtain ⟨a, vl, vp, vr, rfl, ha, hl, hp, hR⟩ := hn
        obtain ⟨okl, okp, okr⟩ := lok_node ok
        have zl := sz_len okl
        have zp := ptx_len okp
        have el := en_cnt okl
        have ep := okp.en
        rw [cnt_node] at hc
        rw [ltx_node] at q
        obtain ⟨pa, rfl, hpa⟩ := hp
        refine iteF ⟨_, rfl, _, _, rfl, rfl, _, rfl, ite2 (fun c => ?_) (fun c => ?_)⟩
        · have c' : i ≤ 0 := of_decide_eq_true c
          rw [show i.toNat = 0 by omega, List.take_zero] at q
          exact q
        · have c' : ¬ i ≤ 0 := of_decide_eq_false (Bool.eq_false_iff.mpr c)
          refine ⟨_, rfl, _, rfl, a, _, 0, _, rfl, rfl, SqT.of ha, rfl, vl, l, rfl, hl, _, _, rfl, rfl, ?_⟩
          refine ⟨_, rfl, _, _, rfl, rfl, _, rfl, ite2 (fun c2 => ?_) (fun c2 => ?_)⟩
          · have c2' : i - (l.sz : Int) ≤ 0 := of_decide_eq_true c2
            refine ⟨_, rfl, a, _, 0, _, rfl, rfl, SqT.of ha, rfl, _, rfl, _, rfl, vl, l, st, z, i, rfl, hl, hst, okl, by omega, hz, ?_⟩
            rw [cnt_take_l (by omega)] at q
            exact q
          · have c2' : ¬ i - (l.sz : Int) ≤ 0 := of_decide_eq_false (Bool.eq_false_iff.mpr c2)
            rw [cnt_take_r (by omega), el, zl] at q
            refine ⟨_, rfl, _, rfl, a, _, 1, _, rfl, rfl, SqT.of ha, rfl, pa, _, 1, _, rfl, rfl, SqT.of hpa, rfl, _, _, rfl, rfl, _, rfl, ite2 (fun c3 => ?_) (fun c3 => ?_)⟩
            · have c3' : i - (l.sz : Int) < (p.s : Int) := of_decide_eq_true c3
              have hst' := hst
              obtain ⟨dx, hsx⟩ := hst'
              have fit := okp.fit
              refine ⟨_, rfl, a, _, 0, _, rfl, rfl, SqT.of ha, rfl, vl, l, rfl, hl, _, rfl, st, dx, _, rfl, hsx, lk1 (by decide +kernel), _, rfl, a, _, 1, _, rfl, rfl, SqT.of ha, rfl, pa, _, 0, _, rfl, rfl, SqT.of hpa, rfl, _, rfl, st, z, _, _, p.b, i.toNat - l.sz, rfl, hst, rfl, by omega, by omega, hz, ⟨_, rfl⟩, _, _, rfl, rfl, ?_⟩
              rw [cnt10]
              refine ⟨_, _, rfl, rfl, ?_⟩
              rw [cnt_take_l (by omega), ← take_ptx (by omega)] at q
              rw [show ((l.en + ((z.drop p.b).take (i.toNat - l.sz)).count 10 : Nat) : Int) = (l.en : Int) + ((((z.drop p.b).take (i.toNat - l.sz)).count 10 : Nat) : Int) by omega] at q
              exact q
            · have c3' : ¬ i - (l.sz : Int) < (p.s : Int) := of_decide_eq_false (Bool.eq_false_iff.mpr c3)
              refine ⟨_, rfl, a, _, 0, _, rfl, rfl, SqT.of ha, rfl, vl, l, rfl, hl, _, rfl, a, _, 1, _, rfl, rfl, SqT.of ha, rfl, pa, _, 2, _, rfl, rfl, SqT.of hpa, rfl, _, _, rfl, rfl, _, rfl, a, _, 2, _, rfl, rfl, SqT.of ha, rfl, _, rfl, _, rfl, a, _, 1, _, rfl, rfl, SqT.of ha, rfl, pa, _, 1, _, rfl, rfl, SqT.of hpa, rfl, _, _, rfl, rfl, _, rfl, vr, r, st, z, _, rfl, hR, hst, okr, by omega, hz, _, _, rfl, rfl, ?_⟩
              rw [cnt_take_r (by omega), ← ep, zp] at q
              rw [show (i - (l.sz : Int) - (p.s : Int)).toNat = i.toNat - l.sz - p.s by omega]
              rw [show ((l.en + (p.e + ((ltx z r.toL).take (i.toNat - l.sz - p.s)).count 10) : Nat) : Int) = (l.en : Int) + (p.e : Int) + ((((ltx z r.toL).take (i.toNat - l.sz - p.s)).count 10 : Nat) : Int) by omega] at q
              exact q

/-! ### end_place -/
def spEndP (C : Addr) (n : Nat) : Sp := fun vs H Q _ => ∃ (v : V) (t : Tr) (st : Addr) (s : List Nat) (ik : Int) (k : Nat), vs = [v, .int ik, .ref st] ∧ ik = (k : Int) ∧ NodeAt H v t ∧ StAt C H st s ∧ LOk s t.toL ∧ t.cnt ≤ n ∧ s.length ≤ 100000 ∧ k < t.en ∧
  ∀ H', Same H H' → Q (.int (posE (ltx s t.toL) k : Int)) H'
theorem scEndP : FnScope ["node", "number", "stock", "first", "lines"] ["node", "number", "stock"] (C8.fnScope (top 39)) := ⟨rfl, rfl, rfl, by decide +kernel, rfl, by decide +kernel, by decide +kernel⟩
theorem ok_endP (D : Df K mg "end_place" "end_place" (top 39) ["node", "number", "stock"]) (B : Bt mg) (Gs : C8.Cal P w K mg base 1 "size_of_nodes" (spGet Tr.sz) []) (Ge : C8.Cal P w K mg base 1 "ends_of" (spGet Tr.en) []) (Gr : C8.Met P w K mg base 2 C "read" (spRead C) []) :
    ∀ n : Nat, C8.Cal P w K mg base (n + 3) "end_place" (spEndP C n) []
  | 0 => by
    refine D.cal scEndP (fun vs H Q E h => ?_) (fun f cdv A outer s H vs Q E hr h => ?_)
    · obtain ⟨_, _, _, _, _, _, rfl, _⟩ := h
      rfl
    · obtain ⟨v, t, st, z, _, k, rfl, rfl, hn, hst, ok, hc, hz, hk, q⟩ := h
      obtain rfl := tr_nil hc
      exact absurd hk (Nat.not_lt_zero _)
  | n + 1 => by
    have ih := ok_endP D B Gs Ge Gr n
    refine D.cal (k := n + 3) scEndP (fun vs H Q E h => ?_) (fun f cdv A outer s H vs Q E hr h => ?_)
    · obtain ⟨_, _, _, _, _, _, rfl, _⟩ := h
      rfl
    · obtain ⟨v, t, st, z, _, k, rfl, rfl, hn, hst, ok, hc, hz, hk, q⟩ := h
      have g1 : 1 ≤ n + 3 := by omega
      have g2 : 2 ≤ n + 3 := by omega
      refine ⟨_, pss_cons (ps_set (i := 3) scEndP.nd rfl (Or.inl rfl) (C8.pe_c Gs hr g1 (by rfl) (pa_cons (pe_ix ix_tup (pv 0) pe_int (fun _ _ => rfl)) pa_nil)))
        (pss_cons (ps_if (pt_cmpR op_lt (pv 1) (C8.pe_c Ge hr g1 (by rfl) (pa_cons (pe_ix ix_tup (pv 0) pe_int (fun _ _ => rfl)) pa_nil)) (nomark _)) (pss_one (ps_ret (C8.pe_c ih hr (Nat.le_refl _) (by rfl) (pa_cons (pe_ix ix_tup (pv 0) pe_int (fun _ _ => rfl)) (pa_cons (pv 1) (pa_cons (pv 2) pa_nil)))))) pss_nil)
        (pss_cons (ps_set (i := 1) scEndP.nd rfl (Or.inl rfl) (pe_op op_sub (pv 1) (C8.pe_c Ge hr g1 (by rfl) (pa_cons (pe_ix ix_tup (pv 0) pe_int (fun _ _ => rfl)) pa_nil))))
        (pss_cons (ps_if (pt_cmpR op_ge (pv 1) (pe_ix ix_tup (pe_ix ix_tup (pv 0) pe_int (fun _ _ => rfl)) pe_int (fun _ _ => rfl)) (nomark _))
          (pss_one (ps_ret (pe_op op_add (pe_op op_add (pv 3) (pe_ix ix_tup (pe_ix ix_tup (pv 0) pe_int (fun _ _ => rfl)) pe_int (fun _ _ => rfl))) (C8.pe_c ih hr (Nat.le_refl _) (by rfl) (pa_cons (pe_ix ix_tup (pv 0) pe_int (fun _ _ => rfl)) (pa_cons (pe_op op_sub (pv 1) (pe_ix ix_tup (pe_ix ix_tup (pv 0) pe_int (fun _ _ => rfl)) pe_int (fun _ _ => rfl))) (pa_cons (pv 2) pa_nil))))))) pss_nil)
        (pss_cons (ps_set (i := 4) scEndP.nd rfl (Or.inl rfl) (pe_split (C8.pe_mt Gr hr g2 (pv 2) (pa_cons (pe_ix ix_tup (pe_ix ix_tup (pv 0) pe_int (fun _ _ => rfl)) pe_int (fun _ _ => rfl)) (pa_cons (pe_ix ix_tup (pe_ix ix_tup (pv 0) pe_int (fun _ _ => rfl)) pe_int (fun _ _ => rfl)) pa_nil))) pe_str))
        (pss_one (ps_ret (pe_op op_add (pv 3) (pe_callB call_len_str (by rfl) B.len PySem.boot_len (pa_cons (pe_join pe_str (pe_slice sl_list (pv 4) po_none (po_some (pe_op op_add (pv 1) pe_int)))) pa_nil))))))))), ?_⟩
      cases t with
      | nil => exact absurd hk (Nat.not_lt_zero _)
      | node l p r =>
        obtain ⟨a, vl, vp, vr, rfl, ha, hl, hp, hR⟩ := hn
        obtain ⟨okl, okp, okr⟩ := lok_node ok
        have zl := sz_len okl
        have zp := ptx_len okp
        have el := en_cnt okl
        have ep := okp.en
        have hk' : k < l.en + p.e + r.en := hk
        rw [cnt_node] at hc
        rw [ltx_node, posE_app, posE_app, el, ← ep, zl, zp] at q
        obtain ⟨pa, rfl, hpa⟩ := hp
        refine ⟨_, rfl, a, _, 0, _, rfl, rfl, SqT.of ha, rfl, vl, l, rfl, hl, ?_⟩
        refine ⟨_, rfl, _, rfl, a, _, 0, _, rfl, rfl, SqT.of ha, rfl, vl, l, rfl, hl, _, _, rfl, rfl, _, rfl, ite2 (fun c => ?_) (fun c => ?_)⟩
        · have c' : (k : Int) < (l.en : Int) := of_decide_eq_true c
          rw [if_pos (by omega)] at q
          exact ⟨_, rfl, a, _, 0, _, rfl, rfl, SqT.of ha, rfl, _, rfl, _, rfl, vl, l, st, z, _, k, rfl, rfl, hl, hst, okl, by omega, hz, by omega, q⟩
        · have c' : ¬ (k : Int) < (l.en : Int) := of_decide_eq_false (Bool.eq_false_iff.mpr c)
          rw [if_neg (by omega)] at q
          refine ⟨_, rfl, _, rfl, a, _, 0, _, rfl, rfl, SqT.of ha, rfl, vl, l, rfl, hl, _, _, rfl, rfl, ?_⟩
          refine ⟨_, rfl, _, rfl, a, _, 1, _, rfl, rfl, SqT.of ha, rfl, pa, _, 2, _, rfl, rfl, SqT.of hpa, rfl, _, _, rfl, rfl, _, rfl, ite2 (fun c2 => ?_) (fun c2 => ?_)⟩
          · have c2' : (p.e : Int) ≤ (k : Int) - (l.en : Int) := of_decide_eq_true c2
            rw [if_neg (by omega)] at q
            refine ⟨_, rfl, _, rfl, a, _, 1, _, rfl, rfl, SqT.of ha, rfl, pa, _, 1, _, rfl, rfl, SqT.of hpa, rfl, _, _, rfl, rfl, _, rfl, a, _, 2, _, rfl, rfl, SqT.of ha, rfl, _, rfl, _, rfl, a, _, 1, _, rfl, rfl, SqT.of ha, rfl, pa, _, 2, _, rfl, rfl, SqT.of hpa, rfl, _, _, rfl, rfl, _, rfl, vr, r, st, z, _, k - l.en - p.e, rfl, by omega, hR, hst, okr, by omega, hz, by omega, fun H1 s1 => ⟨_, _, rfl, rfl, ?_⟩⟩
            have q' := q _ s1
            rw [show (((l.sz + (p.s + posE (ltx z r.toL) (k - l.en - p.e)) : Nat)) : Int) = (l.sz : Int) + (p.s : Int) + ((posE (ltx z r.toL) (k - l.en - p.e) : Nat) : Int) by omega] at q'
            exact q'
          · have c2' : ¬ (p.e : Int) ≤ (k : Int) - (l.en : Int) := of_decide_eq_false (Bool.eq_false_iff.mpr c2)
            rw [if_pos (by omega)] at q
            have hst' := hst
            obtain ⟨dx, hsx⟩ := hst'
            have fit := okp.fit
            have hkc : k - l.en < (ptx z p).count 10 := by
              rw [← ep]
              omega
            refine ⟨_, rfl, st, dx, _, rfl, hsx, lk1 (by decide +kernel), _, rfl, a, _, 1, _, rfl, rfl, SqT.of ha, rfl, pa, _, 0, _, rfl, rfl, SqT.of hpa, rfl, _, rfl, a, _, 1, _, rfl, rfl, SqT.of ha, rfl, pa, _, 1, _, rfl, rfl, SqT.of hpa, rfl, st, z, _, _, p.b, p.s, rfl, hst, rfl, rfl, by omega, hz, ⟨_, rfl⟩, _, _, rfl, rfl, by decide +kernel, ?_, fun u hu => ?_⟩
            · rw [S_len]
              have : (ptx z p).length = ((z.drop p.b).take p.s).length := rfl
              have h2 : ((z.drop p.b).take p.s).length + 2 ≤ 100000 + 2 := by omega
              exact Nat.le_trans h2 (by decide)
            · rw [split10]
              have s1 := same_new hu (HO.lst (((lns ((z.drop p.b).take p.s)).map S).map V.str))
              have c1 := cnt_jn (lns_ne (ptx z p)) (lns_free (ptx z p))
              rw [lns_jn] at c1
              have jt := leaf_pos hkc
              have lt := posE_lt hkc
              refine ⟨_, rfl, ⟨_, rfl⟩, _, rfl, _, rfl, _, _, rfl, rfl, _, rfl, u, _, rfl, SqL.of upd_same, fun u2 hu2 => ?_⟩
              have ecut : cutV (((lns (ptx z p)).map S).map V.str) none (some ((k : Int) - (l.en : Int) + 1)) = ((((lns (ptx z p)).take (k - l.en + 1)).map S).map V.str) := by
                rw [show (k : Int) - (l.en : Int) + 1 = ((k - l.en + 1 : Nat) : Int) by omega, cutV_take (by rw [List.length_map, List.length_map]; omega), List.map_take, List.map_take]
              have s2 := same_new hu2 (HO.lst (cutV (((lns (ptx z p)).map S).map V.str) none (some ((k : Int) - (l.en : Int) + 1))))
              refine ⟨_, u2, ((lns (ptx z p)).take (k - l.en + 1)).map S, rfl, rfl, .inl (SqL.of ?_), ?_, _, rfl, ?_, ?_⟩
              · rw [upd_same]
                exact congrArg (fun x => some (HO.lst x)) ecut
              · rw [lens, List.length_map, show (("\n" : Str)).length = 1 from by decide +kernel, Nat.mul_one]
                have hne : (lns (ptx z p)).take (k - l.en + 1) ≠ [] := by
                  intro zz
                  have q1 : ((lns (ptx z p)).take (k - l.en + 1)).length = 0 := by rw [zz]; rfl
                  rw [List.length_take] at q1
                  omega
                have js := jn_sum hne
                rw [js, jt]
                have : (ptx z p).length ≤ 100000 := by omega
                omega
              · rw [join10, S_len, jt]
                exact sz_le (by omega)
              · refine ⟨_, _, rfl, rfl, ?_⟩
                rw [join10, S_len, jt]
                have q' := q _ (s1.trans s2)
                rw [show (((l.sz + posE (ptx z p) (k - l.en) : Nat)) : Int) = (l.sz : Int) + ((posE (ptx z p) (k - l.en) : Nat) : Int) by omega] at q'
                exact q'
end
end Ink
end
section
namespace Ink
open PySem PySem.Spec PyProof.Rows L2 SX

theorem lk2 {f g h : Str} {x y : V} (a : (f == g) = false) (b : (f == h) = false) : List.lookup f [(g, x), (h, y)] = none := by simp [List.lookup, a, b]
theorem lk2a {f h : Str} {x y : V} : List.lookup f [(f, x), (h, y)] = some x := by simp [List.lookup]
theorem lk2b {f g : Str} {x y : V} (a : (f == g) = false) : List.lookup f [(g, x), (f, y)] = some y := by simp [List.lookup, a]
theorem ns : (("node" : Str) == "stock") = false := by decide +kernel
theorem snE : ¬ (("stock" : Str) = "node") := by decide +kernel
/-- a paper: its stock at st with the signs s, its node the tree t -/
def PaAt (CP CS : Addr) (H : Hp) (p st : Addr) (s : List Nat) (t : Tr) : Prop := ∃ (dx : Addr) (v : V), H p = some (.ins CP dx [("stock", .ref st), ("node", v)]) ∧ StAt CS H st s ∧ NodeAt H v t
theorem PaAt.mono {CP CS : Addr} {H H' : Hp} {p st : Addr} {s : List Nat} {t : Tr} (k : Same H H') (h : PaAt CP CS H p st s t) : PaAt CP CS H' p st s t := by
  obtain ⟨dx, v, a, b, c⟩ := h
  exact ⟨dx, v, k _ _ a, b.mono k, c.mono (TK.of k)⟩
/-- the class Paper -/
structure Pk (K : PySem.W.Frag) (C : Addr) : Prop where
  cl : Cls K C
  nS : NoAttr K C "stock"
  nN : NoAttr K C "node"

/-! ### the text of a tree -/
abbrev txt (s : List Nat) (t : Tr) : List Nat := ltx s t.toL
theorem lns_len {s : List Nat} {t : Tr} (h : LOk s t.toL) : (lns (txt s t)).length = t.en + 1 := by
  have h1 := cnt_jn (lns_ne (txt s t)) (lns_free (txt s t))
  rw [lns_jn, en_cnt h] at h1
  exact h1.symm

section
variable {P : Program} {w : World} {K : PySem.W.Frag} {mg : Str → Option Value} {base : Heap} {k : Nat} {CP CS : Addr}

/-! ### Paper.__init__, size, lines, part -/
def spPInit (CP : Addr) : Sp := fun vs H Q _ => ∃ (q dx st : Addr) (v : V), vs = [.ref q, .ref st, v] ∧ H q = some (.ins CP dx []) ∧ ∀ H', H' q = some (.ins CP dx [("stock", .ref st), ("node", v)]) → (∀ b o, H b = some o → b ≠ q → H' b = some o) → Q .non H'
theorem scPInit : FnScope ["self", "stock", "node"] ["self", "stock", "node"] (C8.fnScope (inC 41 0)) := ⟨rfl, rfl, rfl, by decide +kernel, rfl, by decide +kernel, by decide +kernel⟩
theorem ok_pinit (D : Nf K mg CP "Paper" "Paper.__init__" (inC 41 0) ["self", "stock", "node"]) (T : Pk K CP) : C8.Mak P w K mg base (k + 1) "Paper" CP (spPInit CP) [] := by
  refine D.mak scPInit (fun vs H Q E h => ?_) (fun f cdv A outer s H vs Q E hr h => ?_)
  · obtain ⟨_, _, _, _, rfl, _⟩ := h
    rfl
  · obtain ⟨p, dx, st, v, rfl, hp, q⟩ := h
    refine ⟨_, pss_cons (ps_fld (pv 0) (pv 1) rfl) (pss_one (ps_fld (pv 0) (pv 2) rfl)), ?_⟩
    refine ⟨_, rfl, _, rfl, p, CP, dx, [], rfl, hp, T.cl, T.nS, (by show 0 < 1000; decide), ?_⟩
    refine ⟨_, rfl, _, rfl, p, CP, dx, _, rfl, upd_same, T.cl, T.nN, (by show 1 < 1000; decide), ?_⟩
    refine q _ ?_ fun b o e n => ?_
    · rw [upd_same]
      show some (HO.ins CP dx (if ("stock" : Str) = "node" then [(("stock" : Str), v)] else (("stock" : Str), V.ref st) :: [(("node" : Str), v)])) = _
      rw [if_neg snE]
    · rw [upd_ne n, upd_ne n]
      exact e
def spSize (CP CS : Addr) : Sp := fun vs H Q _ => ∃ (p st : Addr) (s : List Nat) (t : Tr), vs = [.ref p] ∧ PaAt CP CS H p st s t ∧ Q (.int (t.sz : Int)) H
def spLines (CP CS : Addr) : Sp := fun vs H Q _ => ∃ (p st : Addr) (s : List Nat) (t : Tr), vs = [.ref p] ∧ PaAt CP CS H p st s t ∧ Q (.int ((t.en + 1 : Nat) : Int)) H
theorem scPSize : FnScope ["self"] ["self"] (C8.fnScope (inC 41 1)) := ⟨rfl, rfl, rfl, by decide +kernel, rfl, by decide +kernel, by decide +kernel⟩
theorem scPLines : FnScope ["self"] ["self"] (C8.fnScope (inC 41 2)) := ⟨rfl, rfl, rfl, by decide +kernel, rfl, by decide +kernel, by decide +kernel⟩
theorem ok_psize (D : Mf K CP "size" "Paper.size" (inC 41 1) ["self"]) (T : Pk K CP) (Gs : C8.Cal P w K mg base 1 "size_of_nodes" (spGet Tr.sz) []) : C8.Met P w K mg base 2 CP "size" (spSize CP CS) [] := by
  refine D.met scPSize (fun vs H Q E h => ?_) (fun f cdv A outer s H vs Q E hr h => ?_)
  · obtain ⟨_, _, _, _, rfl, _⟩ := h
    rfl
  · obtain ⟨p, st, z, t, rfl, ⟨dx, v, hp, hst, hn⟩, q⟩ := h
    refine ⟨_, pss_one (ps_ret (C8.pe_c Gs hr (by decide) (by rfl) (pa_cons (pe_fld (pv 0) rfl) pa_nil))), ?_⟩
    exact ⟨_, rfl, p, CP, dx, _, _, rfl, hp, T.cl, T.nN, lk2b ns, v, t, rfl, hn, q⟩
theorem ok_plines (D : Mf K CP "lines" "Paper.lines" (inC 41 2) ["self"]) (T : Pk K CP) (Ge : C8.Cal P w K mg base 1 "ends_of" (spGet Tr.en) []) : C8.Met P w K mg base 2 CP "lines" (spLines CP CS) [] := by
  refine D.met scPLines (fun vs H Q E h => ?_) (fun f cdv A outer s H vs Q E hr h => ?_)
  · obtain ⟨_, _, _, _, rfl, _⟩ := h
    rfl
  · obtain ⟨p, st, z, t, rfl, ⟨dx, v, hp, hst, hn⟩, q⟩ := h
    refine ⟨_, pss_one (ps_ret (pe_op op_add (C8.pe_c Ge hr (by decide) (by rfl) (pa_cons (pe_fld (pv 0) rfl) pa_nil)) pe_int)), ?_⟩
    exact ⟨_, rfl, p, CP, dx, _, _, rfl, hp, T.cl, T.nN, lk2b ns, v, t, rfl, hn, _, _, rfl, rfl, q⟩
def spPart (CP CS : Addr) (n : Nat) : Sp := fun vs H Q _ => ∃ (p st : Addr) (s : List Nat) (t : Tr) (b e : Int), vs = [.ref p, .int b, .int e] ∧ PaAt CP CS H p st s t ∧ LOk s t.toL ∧ t.cnt ≤ n ∧ s.length ≤ 100000 ∧ t.sz ≤ 100000 ∧ 0 ≤ b ∧ b ≤ e ∧ e ≤ t.sz ∧ Q (.str (S (sub b e (txt s t)))) H
theorem scPart : FnScope ["self", "begin", "end"] ["self", "begin", "end"] (C8.fnScope (inC 41 6)) := ⟨rfl, rfl, rfl, by decide +kernel, rfl, by decide +kernel, by decide +kernel⟩
theorem ok_part {n : Nat} (D : Mf K CP "part" "Paper.part" (inC 41 6) ["self", "begin", "end"]) (T : Pk K CP) (Ga : C8.Cal P w K mg base 1 "is_among" spAmong []) (Gs : C8.Met P w K mg base 2 CP "size" (spSize CP CS) []) (Gp : C8.Cal P w K mg base (n + 3) "part_of" (spPartOf CS n) []) :
    C8.Met P w K mg base (n + 4) CP "part" (spPart CP CS n) [] := by
  refine D.met (k := n + 3) scPart (fun vs H Q E h => ?_) (fun f cdv A outer s H vs Q E hr h => ?_)
  · obtain ⟨_, _, _, _, _, _, rfl, _⟩ := h
    rfl
  · obtain ⟨p, st, z, t, b, e, rfl, pa, ok, hc, hz, ht, h0, h1, h2, q⟩ := h
    have pa' := pa
    obtain ⟨dx, v, hp, hst, hn⟩ := pa'
    have g1 : 1 ≤ n + 3 := by omega
    have g2 : 2 ≤ n + 3 := by omega
    refine ⟨_, pss_cons (ps_if (PW.pt (pw_or (pt_not (pt_val (C8.pe_c Ga hr g1 (by rfl) (pa_cons (pv 1) (pa_cons pe_int (pa_cons (C8.pe_mt0 Gs hr g2 (pv 0)) pa_nil))))))
          (pw_or1 (pt_not (pt_val (C8.pe_c Ga hr g1 (by rfl) (pa_cons (pv 2) (pa_cons (pv 1) (pa_cons (C8.pe_mt0 Gs hr g2 (pv 0)) pa_nil)))))))))
        (pss_one ps_never) pss_nil)
      (pss_one (ps_ret (C8.pe_c Gp hr (Nat.le_refl _) (by rfl) (pa_cons (pe_fld (pv 0) rfl) (pa_cons (pv 1) (pa_cons (pv 2) (pa_cons (pe_fld (pv 0) rfl) pa_nil))))))), ?_⟩
    refine ⟨_, rfl, _, rfl, p, dx, _, rfl, hp, lk2 (by decide +kernel) (by decide +kernel), p, st, z, t, rfl, pa, _, _, _, rfl, by omega, by omega, true, rfl, iteF ?_⟩
    refine ⟨_, rfl, _, rfl, _, rfl, p, dx, _, rfl, hp, lk2 (by decide +kernel) (by decide +kernel), p, st, z, t, rfl, pa, _, _, _, rfl, by omega, by omega, true, rfl, iteF ?_⟩
    exact ⟨_, rfl, p, CP, dx, _, _, rfl, hp, T.cl, T.nN, lk2b ns, _, rfl, _, rfl, _, rfl, p, CP, dx, _, _, rfl, hp, T.cl, T.nS, lk2a, v, t, st, z, b, e, rfl, h0, hn, hst, ok, hc, hz, ht, q⟩

/-! ### need_cuts -/
def spNeedCuts (CP CS : Addr) (n : Nat) : Sp := fun vs H Q _ => ∃ (p st a : Addr) (s : List Nat) (t : Tr) (cs : List Part), vs = [.ref p, .ref a] ∧ PaAt CP CS H p st s t ∧ LOk s t.toL ∧ t.cnt ≤ n ∧ s.length ≤ 100000 ∧ t.sz ≤ 100000 ∧ ChAt H a cs ∧ Neat cs ∧ Sml cs ∧ fits cs (txt s t) ∧
  ∀ H', Same H H' → Q .non H'
theorem scNeedCuts : FnScope ["paper", "change", "place", "word", "thing"] ["paper", "change"] (C8.fnScope (top 40)) := ⟨rfl, rfl, rfl, by decide +kernel, rfl, by decide +kernel, by decide +kernel⟩
/-- one part further -/
theorem fits_at {cs : List Part} {l : List Nat} {i : Nat} {p : Part} (h : fits cs l) (e : cs[i]? = some p) : over (cs.take i) ≤ l.length ∧ fits (p :: cs.drop (i + 1)) (l.drop (over (cs.take i))) := by
  have hi : i < cs.length := (List.getElem?_eq_some_iff.mp e).1
  have e2 : cs[i] = p := (List.getElem?_eq_some_iff.mp e).2
  have h' := h
  rw [← List.take_append_drop i cs, fits_app, List.drop_eq_getElem_cons hi, e2] at h'
  exact ⟨h'.1, h'.2.2⟩
theorem over_snoc {cs : List Part} {i : Nat} {p : Part} (e : cs[i]? = some p) : over (cs.take (i + 1)) = over (cs.take i) + over1 p := by
  rw [take_snoc e, over_app]
  show _ = _
  rw [show over [p] = over1 p + 0 from rfl]
  omega
theorem ok_needCuts {n : Nat} (D : Df K mg "need_cuts" "need_cuts" (top 40) ["paper", "change"]) (T : Pk K CP) (B : Bt mg) (Gz : C8.Cal P w K mg base 4 "sizes" spSizes []) (Gs : C8.Met P w K mg base 2 CP "size" (spSize CP CS) []) (Gp : C8.Met P w K mg base (n + 4) CP "part" (spPart CP CS n) []) :
    C8.Cal P w K mg base (n + 5) "need_cuts" (spNeedCuts CP CS n) [] := by
  refine D.cal (k := n + 4) scNeedCuts (fun vs H Q E h => ?_) (fun f cdv A outer s H vs Q E hr h => ?_)
  · obtain ⟨_, _, _, _, _, _, rfl, _⟩ := h
    rfl
  · obtain ⟨p, st, a, z, t, cs, rfl, pa, ok, hc, hz, ht, ch, nt, sm, ft, q⟩ := h
    have g2 : 2 ≤ n + 4 := by omega
    have g4 : 4 ≤ n + 4 := by omega
    refine ⟨_, pss_cons (ps_if (pt_cmpR op_ne (pe_ix ix_tup (C8.pe_c Gz hr g4 (by rfl) (pa_cons (pv 1) pa_nil)) pe_int (fun _ _ => rfl)) (C8.pe_mt0 Gs hr g2 (pv 0)) (nomark _)) (pss_one ps_never) pss_nil)
      (pss_cons (ps_set (i := 2) scNeedCuts.nd rfl (Or.inl rfl) pe_int)
      (pss_one (ps_for PassesOwn.never rfl (pi_list (pv 1)) (pg_tup rfl (pgs_cons (pg_name (i := 3) scNeedCuts.nd rfl (Or.inl rfl)) (pgs_cons (pg_name (i := 4) scNeedCuts.nd rfl (Or.inl rfl)) pgs_nil)))
        (pss_one (ps_if (pt_cmpR op_eq (pv 3) pe_str (nomark _)) (pss_one (ps_set (i := 2) scNeedCuts.nd rfl (Or.inl rfl) (pe_op op_add (pv 2) (pv 4))))
          (pss_one (ps_if (pt_cmpR op_eq (pv 3) pe_str (nomark _))
            (pss_cons (ps_if (pt_cmpR op_ne (C8.pe_mt Gp hr (Nat.le_refl _) (pv 0) (pa_cons (pv 2) (pa_cons (pe_op op_add (pv 2) (pe_callB call_len_str (by rfl) B.len PySem.boot_len (pa_cons (pv 4) pa_nil))) pa_nil))) (pv 4) (nomark _)) (pss_one ps_never) pss_nil)
            (pss_one (ps_set (i := 2) scNeedCuts.nd rfl (Or.inl rfl) (pe_op op_add (pv 2) (pe_callB call_len_str (by rfl) B.len PySem.boot_len (pa_cons (pv 4) pa_nil))))))
            pss_nil))))))), ?_⟩
    have ov : over cs = t.sz := by
      rw [fits_over ft, sz_len ok]
    refine ⟨_, rfl, a, cs, rfl, ch, nt, sm, fun H1 tp g s1 htp => ?_⟩
    have pa1 := pa.mono s1
    have pa1' := pa1
    obtain ⟨dx, v, hp, hst, hn⟩ := pa1'
    refine ⟨tp, _, 0, _, rfl, rfl, SqT.of htp, rfl, _, rfl, p, dx, _, rfl, hp, lk2 (by decide +kernel) (by decide +kernel), p, st, z, t, rfl, pa1, rfl, _, rfl, iteNS (by rw [ov]) ?_⟩
    obtain ⟨vs, ha, hps⟩ := ch
    have hvl := hps.len
    refine ⟨_, rfl, a, rfl, ⟨_, SqL.of (s1 _ _ ha)⟩, for_it (walk_list (K := K) (a := a) (xs := vs)) (fun i σ H2 => ∃ v3 v4, σ = [some (.ref p), some (.ref a), some (.int (over (cs.take i) : Int)), v3, v4] ∧ H2 = H1) ⟨none, none, rfl, rfl⟩ (fun i σ H2 _ h => ?_) ?_ ?_⟩
    · obtain ⟨_, _, _, rfl⟩ := h
      exact SqL.of (s1 _ _ ha)
    · rintro i x σ H2 H3 hi ⟨v3, v4, rfl, rfl⟩ ⟨rfl, hx⟩
      obtain ⟨c, hcs, pc, rfl, hpt⟩ := hps.get hx
      have hm := List.mem_of_getElem? hcs
      obtain ⟨fo, fa⟩ := fits_at ft hcs
      have os := over_snoc hcs
      rw [sz_len ok] at fo
      refine ⟨pc, _, rfl, SqT.of (s1 _ _ hpt), rfl, _, _, rfl, _, _, rfl, rfl, ?_⟩
      refine ⟨_, rfl, rfl, _, rfl, ?_⟩
      cases c with
      | keep m =>
        refine iteD' rfl ⟨_, rfl, _, rfl, _, _, rfl, rfl, some (.str (wordOf (.keep m))), some (thingOf (.keep m)), ?_, rfl⟩
        rw [os]
        rfl
      | put y =>
        refine iteD w_put_keep ⟨_, rfl, rfl, _, rfl, iteD w_put_cut ⟨some (.str (wordOf (.put y))), some (thingOf (.put y)), ?_, rfl⟩⟩
        rw [os]
        rfl
      | cut y =>
        have ft1 := fa.1
        have hyl := fits_cut_le ft1
        rw [List.length_drop, sz_len ok] at hyl
        have small_y : y.length ≤ 100000 := sm.all _ hm
        refine iteD w_cut_keep ⟨_, rfl, rfl, _, rfl, iteD' rfl ?_⟩
        refine ⟨_, rfl, p, dx, _, rfl, hp, lk2 (by decide +kernel) (by decide +kernel), _, rfl, _, rfl, _, rfl, _, rfl, S_le small_y, _, _, rfl, rfl, p, st, z, t, _, _, rfl, pa1, ok, hc, hz, ht, by omega, by omega, by rw [S_len]; omega, _, rfl, rfl, _, rfl, iteNS ?_ ?_⟩
        · rw [S_len]
          show V.str (S (sub (over (cs.take i) : Int) ((over (cs.take i) : Int) + (y.length : Int)) (txt z t))) = V.str (S y)
          unfold sub
          rw [show ((over (cs.take i) : Int) + (y.length : Int) - (over (cs.take i) : Int)).toNat = y.length by omega, show ((over (cs.take i) : Nat) : Int).toNat = over (cs.take i) by omega, ft1]
        · refine ⟨_, rfl, _, rfl, _, rfl, S_le small_y, _, _, rfl, rfl, some (.str (wordOf (.cut y))), some (thingOf (.cut y)), ?_, rfl⟩
          rw [os, S_len]
          rfl
    · rintro σ H2 ⟨v3, v4, rfl, rfl⟩
      exact q _ s1
end
end Ink
end
section
namespace Ink
open PySem PySem.Spec PyProof.Rows L2 SX

theorem PaAt.ne {CP CS : Addr} {H : Hp} {p st : Addr} {s : List Nat} {t : Tr} (h : PaAt CP CS H p st s t) : p ≠ st := by
  obtain ⟨dx, v, a, ⟨dy, b⟩, c⟩ := h
  refine ne_of a b ?_
  intro z
  injection z with _ _ z
  cases z
theorem puts_snoc {cs : List Part} {i : Nat} {p : Part} (e : cs[i]? = some p) : puts (cs.take (i + 1)) = puts (cs.take i) + puts1 p := by
  rw [take_snoc e, puts_app]
  show _ = _
  rw [show puts [p] = puts1 p + 0 from rfl]
  omega
theorem puts_le : ∀ (cs : List Part) (i : Nat), puts (cs.take i) ≤ puts cs
  | [], i => by rw [List.take_nil]; exact Nat.le_refl _
  | p :: r, 0 => Nat.zero_le _
  | p :: r, i + 1 => by
    have ih := puts_le r i
    show puts1 p + puts (r.take i) ≤ puts1 p + puts r
    omega

section
variable {P : Program} {w : World} {K : PySem.W.Frag} {mg : Str → Option Value} {base : Heap} {k : Nat} {CP CS : Addr}

/-! ### changed -/
def spChanged (CP CS : Addr) (n : Nat) : Sp := fun vs H Q _ => ∃ (p st a : Addr) (s : List Nat) (t : Tr) (cs : List Part), vs = [.ref p, .ref a] ∧ PaAt CP CS H p st s t ∧ LOk s t.toL ∧ t.cnt + cs.length ≤ n ∧ s.length + puts cs ≤ 100000 ∧ t.sz ≤ 100000 ∧ ChAt H a cs ∧ Neat cs ∧ Sml cs ∧ fits cs (txt s t) ∧
  ∀ H' p' s' t', But st H H' → PaAt CP CS H' p' st s' t' → LOk s' t'.toL → txt s' t' = res cs (txt s t) → t'.cnt ≤ t.cnt + cs.length → s'.length = s.length + puts cs → Q (.ref p') H'
theorem scChanged : FnScope ["self", "change", "node", "rest", "word", "thing", "kept"] ["self", "change"] (C8.fnScope (inC 41 7)) := ⟨rfl, rfl, rfl, by decide +kernel, rfl, by decide +kernel, by decide +kernel⟩
theorem ok_changed {n : Nat} (D : Mf K CP "changed" "Paper.changed" (inC 41 7) ["self", "change"]) (T : Pk K CP) (B : Bt mg) (Gn : C8.Cal P w K mg base 3 "need_change" spNeedChange []) (Gc : C8.Cal P w K mg base (n + 5) "need_cuts" (spNeedCuts CP CS n) [])
    (Go : C8.Cal P w K mg base (n + 5) "node_of" (spNodeOf CS) []) (Gl : C8.Cal P w K mg base (n + 6) "sealed" (spSealed n) []) (Gp : C8.Cal P w K mg base (n + 5 + n) "parted" (spParted CS n) []) (Gm : C8.Mak P w K mg base 1 "Paper" CP (spPInit CP) []) :
    C8.Met P w K mg base (n + 6 + n + 1) CP "changed" (spChanged CP CS n) [] := by
  refine D.met (k := n + 6 + n) scChanged (fun vs H Q E h => ?_) (fun f cdv A outer s H vs Q E hr h => ?_)
  · obtain ⟨_, _, _, _, _, _, rfl, _⟩ := h
    rfl
  · obtain ⟨p, st, a, z, t, cs, rfl, pa, ok, hc, hz, ht, ch, nt, sm, ft, q⟩ := h
    have g2 : 1 + 1 ≤ n + 6 + n := by omega
    have g3 : 3 ≤ n + 6 + n := by omega
    have g5 : n + 5 ≤ n + 6 + n := by omega
    have g6 : n + 6 ≤ n + 6 + n := by omega
    have gp : n + 5 + n ≤ n + 6 + n := by omega
    refine ⟨_, pss_cons (ps_expr (C8.pe_c Gn hr g3 (by rfl) (pa_cons (pv 1) pa_nil)))
      (pss_cons (ps_expr (C8.pe_c Gc hr g5 (by rfl) (pa_cons (pv 0) (pa_cons (pv 1) pa_nil))))
      (pss_cons (ps_set (i := 2) scChanged.nd rfl (Or.inl rfl) pe_non)
      (pss_cons (ps_set (i := 3) scChanged.nd rfl (Or.inl rfl) (pe_fld (pv 0) rfl))
      (pss_cons (ps_for PassesOwn.never rfl (pi_list (pv 1)) (pg_tup rfl (pgs_cons (pg_name (i := 4) scChanged.nd rfl (Or.inl rfl)) (pgs_cons (pg_name (i := 5) scChanged.nd rfl (Or.inl rfl)) pgs_nil)))
        (pss_one (ps_if (pt_cmpR op_eq (pv 4) pe_str (nomark _))
          (pss_one (ps_set (i := 2) scChanged.nd rfl (Or.inl rfl) (C8.pe_c Gl hr g6 (by rfl) (pa_cons (pv 2) (pa_cons (C8.pe_c Go hr g5 (by rfl) (pa_cons (pe_fld (pv 0) rfl) (pa_cons (pv 5) pa_nil))) pa_nil)))))
          (pss_one (ps_if (pt_cmpR op_eq (pv 4) pe_str (nomark _))
            (pss_cons (ps_asg (C8.pe_c Gp hr gp (by rfl) (pa_cons (pv 3) (pa_cons (pv 5) (pa_cons (pe_fld (pv 0) rfl) pa_nil)))) (pg_tup (by rfl) (pgs_cons (pg_name (i := 6) scChanged.nd rfl (Or.inl rfl)) (pgs_cons (pg_name (i := 3) scChanged.nd rfl (Or.inl rfl)) pgs_nil))))
            (pss_one (ps_set (i := 2) scChanged.nd rfl (Or.inl rfl) (C8.pe_c Gl hr g6 (by rfl) (pa_cons (pv 2) (pa_cons (pv 6) pa_nil))))))
            (pss_one (ps_set (i := 3) scChanged.nd rfl (Or.inl rfl) (pe_ix ix_tup (C8.pe_c Gp hr gp (by rfl) (pa_cons (pv 3) (pa_cons (pe_callB call_len_str (by rfl) B.len PySem.boot_len (pa_cons (pv 5) pa_nil)) (pa_cons (pe_fld (pv 0) rfl) pa_nil)))) pe_int (fun _ _ => rfl)))))))))
      (pss_one (ps_ret (C8.pe_mk Gm hr g2 (by rfl) (pa_cons (pe_fld (pv 0) rfl) (pa_cons (pv 2) pa_nil))))))))), ?_⟩
    refine ⟨_, rfl, a, cs, rfl, ch, nt, sm, fun H1 s1 => ?_⟩
    refine ⟨_, rfl, _, rfl, p, st, a, z, t, cs, rfl, pa.mono s1, ok, by omega, by omega, ht, ch.mono s1, nt, sm, ft, fun H2 s2 => ?_⟩
    have s12 := s1.trans s2
    have pne := pa.ne
    obtain ⟨dx, v, hp, hst, hn⟩ := pa
    obtain ⟨vs, ha, hps⟩ := ch
    have hvl := hps.len
    have ane : a ≠ st := by
      obtain ⟨dy, hb⟩ := hst
      exact ne_of ha hb (by intro z; cases z)
    refine ⟨_, rfl, p, CP, dx, _, _, rfl, s12 _ _ hp, T.cl, T.nN, lk2b ns, ?_⟩
    refine ⟨_, rfl, a, rfl, ⟨_, SqL.of (s12 _ _ ha)⟩, for_it (walk_list (K := K) (a := a) (xs := vs)) (fun i σ H' => ∃ (v1 v2 : V) (v4 v5 v6 : Option V) (s' : List Nat) (t1 t2 : Tr), σ = [some (.ref p), some (.ref a), some v1, some v2, v4, v5, v6] ∧ But st H H' ∧ StAt CS H' st s' ∧ NodeAt H' v1 t1 ∧ NodeAt H' v2 t2 ∧
        LOk s' t1.toL ∧ LOk s' t2.toL ∧ fits (cs.drop i) (txt s' t2) ∧ txt s' t1 ++ res (cs.drop i) (txt s' t2) = res cs (txt z t) ∧ t1.cnt + t2.cnt ≤ t.cnt + i ∧ s'.length = z.length + puts (cs.take i)) ?_ (fun i σ H' hi h => ?_) ?_ ?_⟩
    · exact ⟨.non, v, none, none, none, z, .nil, t, rfl, But.of s12, hst.mono s12, rfl, hn.mono (TK.of s12), lok_nil, ok, ft, rfl, by rw [cnt_nil]; omega, rfl⟩
    · obtain ⟨_, _, _, _, _, _, _, _, _, b, _⟩ := h
      exact SqL.of (b _ _ ha ane)
    · rintro i x σ H3 H4 hi ⟨v1, v2, v4, v5, v6, z', t1, t2, rfl, bt, hst', h1, h2, o1, o2, f2, er, hcn, hln⟩ ⟨rfl, hx⟩
      obtain ⟨c, hcs, pc, rfl, hpt⟩ := hps.get hx
      have hm := List.mem_of_getElem? hcs
      have hilt : i < cs.length := (List.getElem?_eq_some_iff.mp hcs).1
      have hpcne : pc ≠ st := by
        obtain ⟨dy, hb⟩ := hst
        exact ne_of hpt hb (by intro z; cases z)
      have hpt' := bt _ _ hpt hpcne
      have hp' := bt _ _ hp pne
      have dr : cs.drop i = c :: cs.drop (i + 1) := by
        rw [List.drop_eq_getElem_cons hilt, (List.getElem?_eq_some_iff.mp hcs).2]
      rw [dr] at f2 er
      have pl := puts_le cs i
      have pl1 := puts_le cs (i + 1)
      have ps := puts_snoc hcs
      refine ⟨pc, _, rfl, SqT.of hpt', rfl, _, _, rfl, _, _, rfl, rfl, ?_⟩
      refine ⟨_, rfl, rfl, _, rfl, ?_⟩
      cases c with
      | put y =>
        obtain ⟨oy, f3⟩ := f2
        have psy : puts (cs.take (i + 1)) = puts (cs.take i) + y.length := ps
        refine iteD' rfl ⟨_, rfl, _, rfl, p, CP, dx, _, _, rfl, hp', T.cl, T.nS, lk2a, _, rfl, st, z', y, rfl, hst', oy, by omega, fun H5 v7 t7 b5 st5 h7 o7 e7 c7 => ?_⟩
        have tk5 := hst'.tk b5
        refine ⟨v1, v7, t1, t7, z' ++ y, rfl, h1.mono tk5, h7, lok_grow o1, o7, by omega, fun v8 H6 t8 s6 h8 o8 e8 c8 => ?_⟩
        refine ⟨v8, v2, some (.str (wordOf (.put y))), some (thingOf (.put y)), v6, z' ++ y, t8, t2, rfl, bt.trans (b5.trans (But.of s6)), st5.mono s6, h8, (h2.mono tk5).mono (TK.of s6), o8, lok_grow o2, ?_, ?_, by omega, ?_⟩
        · rw [show txt (z' ++ y) t2 = txt z' t2 from ltx_grow o2]
          exact f3
        · rw [show txt (z' ++ y) t2 = txt z' t2 from ltx_grow o2, show txt (z' ++ y) t8 = ltx (z' ++ y) t1.toL ++ ltx (z' ++ y) t7.toL from e8, ltx_grow o1, e7, List.append_assoc]
          exact er
        · rw [List.length_append]
          omega
      | keep m =>
        obtain ⟨fm, f3⟩ := f2
        have psy : puts (cs.take (i + 1)) = puts (cs.take i) + 0 := ps
        refine iteD w_keep_put ⟨_, rfl, rfl, _, rfl, iteD' rfl ?_⟩
        refine ⟨_, rfl, _, rfl, _, rfl, p, CP, dx, _, _, rfl, hp', T.cl, T.nS, lk2a, v2, t2, st, z', _, m, rfl, rfl, h2, hst', o2, by omega, by omega, fun H5 tp u1 u2 k1 k2 s5 htp n1 n2 ok1 ok2 e1 e2 cc => ?_⟩
        refine ⟨tp, _, rfl, SqT.of htp, rfl, _, _, rfl, _, _, rfl, rfl, ?_⟩
        refine ⟨_, rfl, _, rfl, v1, u1, t1, k1, z', rfl, h1.mono (TK.of s5), n1, o1, ok1, by omega, fun v8 H6 t8 s6 h8 o8 e8 c8 => ?_⟩
        refine ⟨v8, u2, some (.str (wordOf (.keep m))), some (thingOf (.keep m)), some u1, z', t8, k2, rfl, bt.trans (But.of (s5.trans s6)), hst'.mono (s5.trans s6), h8, n2.mono (TK.of s6), o8, ok2, ?_, ?_, by omega, by omega⟩
        · rw [show txt z' k2 = (ltx z' t2.toL).drop m from e2]
          exact f3
        · rw [show txt z' k2 = (ltx z' t2.toL).drop m from e2, show txt z' t8 = ltx z' t1.toL ++ ltx z' k1.toL from e8, e1, List.append_assoc]
          exact er
      | cut y =>
        obtain ⟨fy, f3⟩ := f2
        have psy : puts (cs.take (i + 1)) = puts (cs.take i) + 0 := ps
        have small_y : y.length ≤ 100000 := sm.all _ hm
        refine iteD w_cut_put ⟨_, rfl, rfl, _, rfl, iteD w_cut_keep ?_⟩
        refine ⟨_, rfl, _, rfl, _, rfl, S_le small_y, _, rfl, p, CP, dx, _, _, rfl, hp', T.cl, T.nS, lk2a, v2, t2, st, z', _, y.length, rfl, by rw [S_len], h2, hst', o2, by omega, by omega, fun H5 tp u1 u2 k1 k2 s5 htp n1 n2 ok1 ok2 e1 e2 cc => ?_⟩
        refine ⟨tp, _, 1, _, rfl, rfl, SqT.of htp, rfl, ?_⟩
        refine ⟨v1, u2, some (.str (wordOf (.cut y))), some (thingOf (.cut y)), v6, z', t1, k2, rfl, bt.trans (But.of s5), hst'.mono s5, h1.mono (TK.of s5), n2, o1, ok2, ?_, ?_, by omega, by omega⟩
        · rw [show txt z' k2 = (ltx z' t2.toL).drop y.length from e2]
          exact f3
        · rw [show txt z' k2 = (ltx z' t2.toL).drop y.length from e2]
          exact er
    · rintro σ H3 ⟨v1, v2, v4, v5, v6, z', t1, t2, rfl, bt, hst', h1, h2, o1, o2, f2, er, hcn, hln⟩
      have hp' := bt _ _ hp pne
      rw [hvl, List.drop_length] at er
      rw [hvl, List.take_length] at hln
      rw [hvl] at hcn
      have er' : txt z' t1 = res cs (txt z t) := by
        rw [← er]
        exact (List.append_nil _).symm
      refine ⟨_, rfl, p, CP, dx, _, _, rfl, hp', T.cl, T.nS, lk2a, _, rfl, fun x dx2 hx hdx ne => ?_⟩
      refine ⟨x, dx2, st, v1, rfl, upd_same, fun H5 hx5 kp => ⟨rfl, ?_⟩⟩
      have s5 : Same H3 H5 := fun b o e => kp b o (by rw [upd_ne (ne_of_none e hx), upd_ne (ne_of_none e hdx)]; exact e) (ne_of_none e hx)
      refine q H5 x z' t1 (bt.trans (But.of s5)) ⟨dx2, v1, hx5, hst'.mono s5, h1.mono (TK.of s5)⟩ o1 er' (by omega) hln

/-! ### line_begin, line_size, line_at, place_at -/
def spLineBegin (CP CS : Addr) (n : Nat) : Sp := fun vs H Q _ => ∃ (p st : Addr) (s : List Nat) (t : Tr) (ii : Int) (i : Nat), vs = [.ref p, .int ii] ∧ ii = (i : Int) ∧ PaAt CP CS H p st s t ∧ LOk s t.toL ∧ t.cnt ≤ n ∧ s.length ≤ 100000 ∧ i < (lns (txt s t)).length ∧
  ∀ H', Same H H' → Q (.int (bg (lns (txt s t)) i : Int)) H'
theorem scLineBegin : FnScope ["self", "line"] ["self", "line"] (C8.fnScope (inC 41 8)) := ⟨rfl, rfl, rfl, by decide +kernel, rfl, by decide +kernel, by decide +kernel⟩
theorem ok_lineBegin {n : Nat} (D : Mf K CP "line_begin" "Paper.line_begin" (inC 41 8) ["self", "line"]) (T : Pk K CP) (Ga : C8.Cal P w K mg base 1 "is_among" spAmong []) (Gl : C8.Met P w K mg base 2 CP "lines" (spLines CP CS) []) (Ge : C8.Cal P w K mg base (n + 3) "end_place" (spEndP CS n) []) :
    C8.Met P w K mg base (n + 4) CP "line_begin" (spLineBegin CP CS n) [] := by
  refine D.met (k := n + 3) scLineBegin (fun vs H Q E h => ?_) (fun f cdv A outer s H vs Q E hr h => ?_)
  · obtain ⟨_, _, _, _, _, _, rfl, _⟩ := h
    rfl
  · obtain ⟨p, st, z, t, _, i, rfl, rfl, pa, ok, hc, hz, hi, q⟩ := h
    have g1 : 1 ≤ n + 3 := by omega
    have g2 : 2 ≤ n + 3 := by omega
    have pa' := pa
    obtain ⟨dx, v, hp, hst, hn⟩ := pa'
    have hl := lns_len ok
    refine ⟨_, pss_cons (ps_if (pt_not (pt_val (C8.pe_c Ga hr g1 (by rfl) (pa_cons (pv 1) (pa_cons pe_int (pa_cons (pe_op op_sub (C8.pe_mt0 Gl hr g2 (pv 0)) pe_int) pa_nil)))))) (pss_one ps_never) pss_nil)
      (pss_cons (ps_if (pt_cmpR op_eq (pv 1) pe_int (nomark _)) (pss_one (ps_ret pe_int)) pss_nil)
      (pss_one (ps_ret (pe_op op_add (C8.pe_c Ge hr (Nat.le_refl _) (by rfl) (pa_cons (pe_fld (pv 0) rfl) (pa_cons (pe_op op_sub (pv 1) pe_int) (pa_cons (pe_fld (pv 0) rfl) pa_nil)))) pe_int)))), ?_⟩
    refine ⟨_, rfl, _, rfl, p, dx, _, rfl, hp, lk2 (by decide +kernel) (by decide +kernel), p, st, z, t, rfl, pa, _, _, rfl, rfl, _, _, _, rfl, by omega, by omega, true, rfl, iteF ?_⟩
    refine ⟨_, rfl, rfl, _, rfl, ite2 (fun c => ?_) (fun c => ?_)⟩
    · have c' : V.int (i : Int) = V.int 0 := of_decide_eq_true c
      have e0 : i = 0 := by
        have := V.int.inj c'
        omega
      subst e0
      have q' := q H (Same.refl _)
      rw [show bg (lns (txt z t)) 0 = 0 from by cases lns (txt z t) <;> rfl] at q'
      exact q'
    · have c' : ¬ V.int (i : Int) = V.int 0 := of_decide_eq_false (Bool.eq_false_iff.mpr c)
      have e0 : i ≠ 0 := fun e => c' (by rw [e]; rfl)
      obtain ⟨j, rfl⟩ : ∃ j, i = j + 1 := ⟨i - 1, by omega⟩
      refine ⟨_, rfl, p, CP, dx, _, _, rfl, hp, T.cl, T.nN, lk2b ns, _, rfl, _, _, rfl, rfl, _, rfl, p, CP, dx, _, _, rfl, hp, T.cl, T.nS, lk2a, v, t, st, z, _, j, rfl, by omega, hn, hst, ok, hc, hz, by omega, fun H1 s1 => ⟨_, _, rfl, rfl, ?_⟩⟩
      have q' := q H1 s1
      have pb := posE_bg (ls := lns (txt z t)) (k := j) (lns_free _) hi
      rw [lns_jn] at pb
      rw [← pb] at q'
      exact q'
def spLineSize (CP CS : Addr) (n : Nat) : Sp := fun vs H Q _ => ∃ (p st : Addr) (s : List Nat) (t : Tr) (ii : Int) (i : Nat) (x : List Nat), vs = [.ref p, .int ii] ∧ ii = (i : Int) ∧ PaAt CP CS H p st s t ∧ LOk s t.toL ∧ t.cnt ≤ n ∧ s.length ≤ 100000 ∧ (lns (txt s t))[i]? = some x ∧
  ∀ H', Same H H' → Q (.int (x.length : Int)) H'
theorem scLineSize : FnScope ["self", "line", "begin"] ["self", "line"] (C8.fnScope (inC 41 9)) := ⟨rfl, rfl, rfl, by decide +kernel, rfl, by decide +kernel, by decide +kernel⟩
theorem ok_lineSize {n : Nat} (D : Mf K CP "line_size" "Paper.line_size" (inC 41 9) ["self", "line"]) (T : Pk K CP) (Gb : C8.Met P w K mg base (n + 4) CP "line_begin" (spLineBegin CP CS n) []) (Gl : C8.Met P w K mg base 2 CP "lines" (spLines CP CS) []) (Gs : C8.Met P w K mg base 2 CP "size" (spSize CP CS) [])
    (Ge : C8.Cal P w K mg base (n + 3) "end_place" (spEndP CS n) []) : C8.Met P w K mg base (n + 5) CP "line_size" (spLineSize CP CS n) [] := by
  refine D.met (k := n + 4) scLineSize (fun vs H Q E h => ?_) (fun f cdv A outer s H vs Q E hr h => ?_)
  · obtain ⟨_, _, _, _, _, _, _, rfl, _⟩ := h
    rfl
  · obtain ⟨p, st, z, t, _, i, x, rfl, rfl, pa, ok, hc, hz, hx, q⟩ := h
    have g2 : 2 ≤ n + 4 := by omega
    have g3 : n + 3 ≤ n + 4 := by omega
    have hi : i < (lns (txt z t)).length := (List.getElem?_eq_some_iff.mp hx).1
    have hl := lns_len ok
    have bs := bg_succ hx
    have al := bg_all (lns_ne (txt z t))
    rw [lns_jn] at al
    have szl : (txt z t).length = t.sz := sz_len ok
    refine ⟨_, pss_cons (ps_set (i := 2) scLineSize.nd rfl (Or.inl rfl) (C8.pe_mt Gb hr (Nat.le_refl _) (pv 0) (pa_cons (pv 1) pa_nil)))
      (pss_cons (ps_if (pt_cmpR op_eq (pv 1) (pe_op op_sub (C8.pe_mt0 Gl hr g2 (pv 0)) pe_int) (nomark _)) (pss_one (ps_ret (pe_op op_sub (C8.pe_mt0 Gs hr g2 (pv 0)) (pv 2)))) pss_nil)
      (pss_one (ps_ret (pe_op op_sub (C8.pe_c Ge hr g3 (by rfl) (pa_cons (pe_fld (pv 0) rfl) (pa_cons (pv 1) (pa_cons (pe_fld (pv 0) rfl) pa_nil)))) (pv 2))))), ?_⟩
    have pa0 := pa
    obtain ⟨dx0, v0, hp0, _⟩ := pa0
    refine ⟨_, rfl, p, dx0, _, rfl, hp0, lk2 (by decide +kernel) (by decide +kernel), _, rfl, p, st, z, t, _, i, rfl, rfl, pa, ok, hc, hz, hi, fun H1 s1 => ?_⟩
    have pa1 := pa.mono s1
    have pa1' := pa1
    obtain ⟨dx, v, hp, hst, hn⟩ := pa1'
    refine ⟨_, rfl, _, rfl, p, dx, _, rfl, hp, lk2 (by decide +kernel) (by decide +kernel), p, st, z, t, rfl, pa1, _, _, rfl, rfl, rfl, _, rfl, ite2 (fun c => ?_) (fun c => ?_)⟩
    · have c' : V.int (i : Int) = V.int (((t.en + 1 : Nat) : Int) - 1) := of_decide_eq_true c
      have e0 : i + 1 = (lns (txt z t)).length := by
        have := V.int.inj c'
        omega
      refine ⟨_, rfl, p, dx, _, rfl, hp, lk2 (by decide +kernel) (by decide +kernel), p, st, z, t, rfl, pa1, _, rfl, _, _, rfl, rfl, ?_⟩
      have q' := q H1 s1
      rw [e0] at bs
      rw [show (x.length : Int) = (t.sz : Int) - (bg (lns (txt z t)) i : Int) by omega] at q'
      exact q'
    · have c' : ¬ V.int (i : Int) = V.int (((t.en + 1 : Nat) : Int) - 1) := of_decide_eq_false (Bool.eq_false_iff.mpr c)
      have e0 : i + 1 < (lns (txt z t)).length := by
        by_cases e : i + 1 = (lns (txt z t)).length
        · exact absurd (congrArg V.int (show (i : Int) = ((t.en + 1 : Nat) : Int) - 1 by omega)) c'
        · omega
      refine ⟨_, rfl, p, CP, dx, _, _, rfl, hp, T.cl, T.nN, lk2b ns, _, rfl, _, rfl, p, CP, dx, _, _, rfl, hp, T.cl, T.nS, lk2a, v, t, st, z, _, i, rfl, rfl, hn, hst, ok, hc, hz, by omega, fun H2 s2 => ⟨_, rfl, _, _, rfl, rfl, ?_⟩⟩
      have q' := q H2 (s1.trans s2)
      have pb := posE_bg (ls := lns (txt z t)) (k := i) (lns_free _) e0
      rw [lns_jn] at pb
      rw [show (x.length : Int) = ((posE (txt z t) i : Nat) : Int) - (bg (lns (txt z t)) i : Int) by omega] at q'
      exact q'
def spLineAt (CP CS : Addr) (n : Nat) : Sp := fun vs H Q _ => ∃ (p st : Addr) (s : List Nat) (t : Tr) (ip : Int) (i c : Nat) (x : List Nat), vs = [.ref p, .int ip] ∧ ip = (bg (lns (txt s t)) i : Int) + (c : Int) ∧ PaAt CP CS H p st s t ∧ LOk s t.toL ∧ t.cnt ≤ n ∧ s.length ≤ 100000 ∧ (lns (txt s t))[i]? = some x ∧ c ≤ x.length ∧
  ∀ H' u, Same H H' → H' u = some (.tup [.int (i : Int), .int (c : Int)]) → Q (.ref u) H'
theorem scLineAt : FnScope ["self", "place", "line"] ["self", "place"] (C8.fnScope (inC 41 10)) := ⟨rfl, rfl, rfl, by decide +kernel, rfl, by decide +kernel, by decide +kernel⟩
theorem ok_lineAt {n : Nat} (D : Mf K CP "line_at" "Paper.line_at" (inC 41 10) ["self", "place"]) (T : Pk K CP) (Ga : C8.Cal P w K mg base 1 "is_among" spAmong []) (Gs : C8.Met P w K mg base 2 CP "size" (spSize CP CS) []) (Ge : C8.Cal P w K mg base (n + 3) "ends_ahead" (spEndsA CS n) [])
    (Gb : C8.Met P w K mg base (n + 4) CP "line_begin" (spLineBegin CP CS n) []) : C8.Met P w K mg base (n + 5) CP "line_at" (spLineAt CP CS n) [] := by
  refine D.met (k := n + 4) scLineAt (fun vs H Q E h => ?_) (fun f cdv A outer s H vs Q E hr h => ?_)
  · obtain ⟨_, _, _, _, _, _, _, _, rfl, _⟩ := h
    rfl
  · obtain ⟨p, st, z, t, _, i, c, x, rfl, rfl, pa, ok, hc, hz, hx, hcx, q⟩ := h
    have g1 : 1 ≤ n + 4 := by omega
    have g2 : 2 ≤ n + 4 := by omega
    have g3 : n + 3 ≤ n + 4 := by omega
    have hi : i < (lns (txt z t)).length := (List.getElem?_eq_some_iff.mp hx).1
    have bl := bg_le hx
    rw [lns_jn] at bl
    have szl : (txt z t).length = t.sz := sz_len ok
    have ca := cnt_at (lns_free (txt z t)) hx hcx
    rw [lns_jn] at ca
    have pa' := pa
    obtain ⟨dx, v, hp, hst, hn⟩ := pa'
    refine ⟨_, pss_cons (ps_if (pt_not (pt_val (C8.pe_c Ga hr g1 (by rfl) (pa_cons (pv 1) (pa_cons pe_int (pa_cons (C8.pe_mt0 Gs hr g2 (pv 0)) pa_nil)))))) (pss_one ps_never) pss_nil)
      (pss_cons (ps_set (i := 2) scLineAt.nd rfl (Or.inl rfl) (C8.pe_c Ge hr g3 (by rfl) (pa_cons (pe_fld (pv 0) rfl) (pa_cons (pv 1) (pa_cons (pe_fld (pv 0) rfl) pa_nil)))))
      (pss_one (ps_ret (pe_tup (pa_cons (pv 2) (pa_cons (pe_op op_sub (pv 1) (C8.pe_mt Gb hr (Nat.le_refl _) (pv 0) (pa_cons (pv 2) pa_nil))) pa_nil)))))), ?_⟩
    refine ⟨_, rfl, _, rfl, p, dx, _, rfl, hp, lk2 (by decide +kernel) (by decide +kernel), p, st, z, t, rfl, pa, _, _, _, rfl, by omega, by omega, true, rfl, iteF ?_⟩
    refine ⟨_, rfl, p, CP, dx, _, _, rfl, hp, T.cl, T.nN, lk2b ns, _, rfl, _, rfl, p, CP, dx, _, _, rfl, hp, T.cl, T.nS, lk2a, v, t, st, z, _, rfl, hn, hst, ok, hc, hz, ?_⟩
    rw [show ((bg (lns (txt z t)) i : Int) + (c : Int)).toNat = bg (lns (txt z t)) i + c by omega, show ltx z t.toL = txt z t from rfl, ca]
    refine ⟨_, rfl, _, rfl, _, rfl, p, dx, _, rfl, hp, lk2 (by decide +kernel) (by decide +kernel), _, rfl, p, st, z, t, _, i, rfl, rfl, pa, ok, hc, hz, hi, fun H1 s1 => ⟨_, _, rfl, rfl, (by show 2 ≤ sizeLine; decide), fun u hu => ?_⟩⟩
    refine q _ u (s1.trans (same_new hu _)) ?_
    rw [upd_same]
    show some (HO.tup [V.int (i : Int), V.int ((bg (lns (txt z t)) i : Int) + (c : Int) - (bg (lns (txt z t)) i : Int))]) = _
    rw [show (bg (lns (txt z t)) i : Int) + (c : Int) - (bg (lns (txt z t)) i : Int) = (c : Int) by omega]
def spPlaceAt (CP CS : Addr) (n : Nat) : Sp := fun vs H Q _ => ∃ (p st : Addr) (s : List Nat) (t : Tr) (ii ic : Int) (i c : Nat) (x : List Nat), vs = [.ref p, .int ii, .int ic] ∧ ii = (i : Int) ∧ ic = (c : Int) ∧ PaAt CP CS H p st s t ∧ LOk s t.toL ∧ t.cnt ≤ n ∧ s.length ≤ 100000 ∧ (lns (txt s t))[i]? = some x ∧ c ≤ x.length ∧
  ∀ H', Same H H' → Q (.int ((bg (lns (txt s t)) i : Int) + (c : Int))) H'
theorem scPlaceAt : FnScope ["self", "line", "column", "begin"] ["self", "line", "column"] (C8.fnScope (inC 41 11)) := ⟨rfl, rfl, rfl, by decide +kernel, rfl, by decide +kernel, by decide +kernel⟩
theorem ok_placeAt {n : Nat} (D : Mf K CP "place_at" "Paper.place_at" (inC 41 11) ["self", "line", "column"]) (T : Pk K CP) (Ga : C8.Cal P w K mg base 1 "is_among" spAmong []) (Gb : C8.Met P w K mg base (n + 4) CP "line_begin" (spLineBegin CP CS n) []) (Gz : C8.Met P w K mg base (n + 5) CP "line_size" (spLineSize CP CS n) []) :
    C8.Met P w K mg base (n + 6) CP "place_at" (spPlaceAt CP CS n) [] := by
  refine D.met (k := n + 5) scPlaceAt (fun vs H Q E h => ?_) (fun f cdv A outer s H vs Q E hr h => ?_)
  · obtain ⟨_, _, _, _, _, _, _, _, _, rfl, _⟩ := h
    rfl
  · obtain ⟨p, st, z, t, _, _, i, c, x, rfl, rfl, rfl, pa, ok, hc, hz, hx, hcx, q⟩ := h
    have g1 : 1 ≤ n + 5 := by omega
    have g4 : n + 4 ≤ n + 5 := by omega
    have hi : i < (lns (txt z t)).length := (List.getElem?_eq_some_iff.mp hx).1
    have pa0 := pa
    obtain ⟨dx0, v0, hp0, _⟩ := pa0
    refine ⟨_, pss_cons (ps_set (i := 3) scPlaceAt.nd rfl (Or.inl rfl) (C8.pe_mt Gb hr g4 (pv 0) (pa_cons (pv 1) pa_nil)))
      (pss_cons (ps_if (pt_not (pt_val (C8.pe_c Ga hr g1 (by rfl) (pa_cons (pv 2) (pa_cons pe_int (pa_cons (C8.pe_mt Gz hr (Nat.le_refl _) (pv 0) (pa_cons (pv 1) pa_nil)) pa_nil)))))) (pss_one ps_never) pss_nil)
      (pss_one (ps_ret (pe_op op_add (pv 3) (pv 2))))), ?_⟩
    refine ⟨_, rfl, p, dx0, _, rfl, hp0, lk2 (by decide +kernel) (by decide +kernel), _, rfl, p, st, z, t, _, i, rfl, rfl, pa, ok, hc, hz, hi, fun H1 s1 => ?_⟩
    have pa1 := pa.mono s1
    refine ⟨_, rfl, _, rfl, p, dx0, _, rfl, s1 _ _ hp0, lk2 (by decide +kernel) (by decide +kernel), _, rfl, p, st, z, t, _, i, x, rfl, rfl, pa1, ok, hc, hz, hx, fun H2 s2 => ⟨_, _, _, rfl, by omega, by omega, true, rfl, iteF ?_⟩⟩
    exact ⟨_, rfl, _, rfl, _, _, rfl, rfl, q H2 (s1.trans s2)⟩

/-! ### paper_of -/
def spPaperOf (CP CS : Addr) : Sp := fun vs H Q _ => ∃ x : List Nat, vs = [.str (S x)] ∧ OkT x ∧ x.length ≤ 100000 ∧
  ∀ H' p st s t, Same H H' → H st = none → PaAt CP CS H' p st s t → LOk s t.toL → txt s t = x → t.cnt ≤ 1 → s.length = x.length → Q (.ref p) H'
theorem scPaperOf : FnScope ["text", "stock"] ["text"] (C8.fnScope (top 42)) := ⟨rfl, rfl, rfl, by decide +kernel, rfl, by decide +kernel, by decide +kernel⟩
theorem ok_paperOf {n : Nat} (D : Df K mg "paper_of" "paper_of" (top 42) ["text"]) (Gn : C8.Cal P w K mg base 2 "need_text" spNeedText []) (Gs : Nf K mg CS "Stock" "Stock.__init__" (inC 33 0) ["self"]) (T : Sk K CS) (Gm : C8.Mak P w K mg base 1 "Paper" CP (spPInit CP) []) (Go : C8.Cal P w K mg base (n + 5) "node_of" (spNodeOf CS) []) :
    C8.Cal P w K mg base (n + 6) "paper_of" (spPaperOf CP CS) [] := by
  obtain ⟨f0, fd0, ps0, ds0, M0, F0, m0, b0, d0⟩ := (ok_sinit (P := P) (w := w) (base := base) (k := 0) Gs T).ex
  refine D.cal (k := n + 5) scPaperOf (fun vs H Q E h => ?_) (fun f cdv A outer s H vs Q E hr h => ?_)
  · obtain ⟨_, rfl, _⟩ := h
    rfl
  · obtain ⟨x, rfl, ok, hl, q⟩ := h
    have g2 : 2 ≤ n + 5 := by omega
    have g2' : 1 + 1 ≤ n + 5 := by omega
    refine ⟨_, pss_cons (ps_expr (C8.pe_c Gn hr g2 (by rfl) (pa_cons (pv 0) pa_nil)))
      (pss_cons (ps_set (i := 1) scPaperOf.nd rfl (Or.inl rfl) (pe_make0 M0 F0 (hr.mono g2') (by rfl) m0 b0 d0 (C8.pass0 (E := C8.E0))))
      (pss_one (ps_ret (C8.pe_mk Gm hr g2' (by rfl) (pa_cons (pv 1) (pa_cons (C8.pe_c Go hr (Nat.le_refl _) (by rfl) (pa_cons (pv 1) (pa_cons (pv 0) pa_nil))) pa_nil)))))), ?_⟩
    refine ⟨_, rfl, x, rfl, ok, hl, fun H1 s1 => ?_⟩
    intro st dx hst hdx ne
    refine ⟨st, dx, rfl, upd_same, rfl, ?_⟩
    have sA : Same H1 (upd (upd (upd H1 dx (.own st)) st (.ins CS dx [])) st (.ins CS dx [("signs", .str (S []))])) := fun b o e => by
      rw [upd_ne (ne_of_none e hst), upd_ne (ne_of_none e hst), upd_ne (ne_of_none e hdx)]
      exact e
    refine ⟨_, rfl, _, rfl, _, rfl, st, [], x, rfl, ⟨dx, upd_same⟩, ok, by show 0 + x.length ≤ 100000; omega, fun H2 v t b2 st2 h2 o2 e2 c2 => ?_⟩
    have sB : Same H1 H2 := fun b o e => b2 b o (sA b o e) (ne_of_none e hst)
    intro y dy hy hdy ne2
    refine ⟨y, dy, st, v, rfl, upd_same, fun H5 hx5 kp => ⟨rfl, ?_⟩⟩
    have s5 : Same H2 H5 := fun b o e => kp b o (by rw [upd_ne (ne_of_none e hy), upd_ne (ne_of_none e hdy)]; exact e) (ne_of_none e hy)
    exact q H5 y st ([] ++ x) t ((s1.trans sB).trans s5) (s1.free hst) ⟨dy, v, hx5, st2.mono s5, h2.mono (TK.of s5)⟩ o2 e2 c2 rfl
end
end Ink
end
section
namespace Ink
open PySem PySem.Spec PyProof.Rows L2 SX

theorem at_mem {α : Type} {l : List α} {i : Int} (h0 : 0 ≤ i) (h1 : i < l.length) : ∃ c, atI l i = some c ∧ c ∈ l := by
  have hi : i.toNat < l.length := by omega
  have h := atI_nat (List.getElem?_eq_getElem hi)
  rw [show ((i.toNat : Nat) : Int) = i by omega] at h
  exact ⟨l[i.toNat], h, List.getElem_mem hi⟩
def SOME : List Nat := SGL.take 94
theorem some_ok : ∀ c ∈ SOME, okc c = true := by decide +kernel
theorem some_len : SOME.length = 94 := by decide +kernel
theorem some_S : (" !\"#$&'()*+,-./0123456789:;<=>?@ABCDEFGHIJKLMNOPQRSTUVWXYZ[\\]^_`" : Str) ++ ("abcdefghijklmnopqrstuvwxyz{|}~" : Str) = S SOME := by decide +kernel
theorem some_fit : ((" !\"#$&'()*+,-./0123456789:;<=>?@ABCDEFGHIJKLMNOPQRSTUVWXYZ[\\]^_`" : Str)).length + ("abcdefghijklmnopqrstuvwxyz{|}~" : Str).length ≤ sizeLine := by decide +kernel
theorem ab_S : ("ab" : Str) = S [97, 98] := by decide +kernel

section
variable {P : Program} {w : World} {K : PySem.W.Frag} {mg : Str → Option Value} {base : Heap} {k : Nat} {CP CS : Addr}

/-! ### _law_cell_at -/
def spCell (K : PySem.W.Frag) : Sp := fun vs H Q _ => ∃ (a : Addr) (ns : List Int) (i : Int), vs = [.ref a, .int i] ∧ SqL K H a (ns.map V.int) ∧ 0 ≤ i ∧ ∀ n : Int, Q (.int n) H
theorem scCell : FnScope ["_law_script", "_law_k"] ["_law_script", "_law_k"] (C8.fnScope (top 44)) := ⟨rfl, rfl, rfl, by decide +kernel, rfl, by decide +kernel, by decide +kernel⟩
theorem ok_cell (D : Df K mg "_law_cell_at" "_law_cell_at" (top 44) ["_law_script", "_law_k"]) (B : Bt mg) : C8.Cal P w K mg base (k + 1) "_law_cell_at" (spCell K) [] := by
  refine D.cal scCell (fun vs H Q E h => ?_) (fun f cdv A outer s H vs Q E hr h => ?_)
  · obtain ⟨_, _, _, rfl, _⟩ := h
    rfl
  · obtain ⟨a, ns, i, rfl, hS, h0, q⟩ := h
    refine ⟨_, pss_cons (ps_if (pt_cmpR op_lt (pv 1) (pe_callB call_len_seq (by rfl) B.len PySem.boot_len (pa_cons (pv 0) pa_nil)) (nomark _)) (pss_one (ps_ret (pe_ix ix_list (pv 0) (pv 1) (fun _ _ => rfl)))) pss_nil)
      (pss_one (ps_ret pe_int)), ?_⟩
    refine ⟨_, rfl, _, rfl, a, _, rfl, .inl hS, _, _, rfl, rfl, _, rfl, ite2 (fun c => ?_) (fun c => ?_)⟩
    · have c' : i < (((ns.map V.int).length : Nat) : Int) := of_decide_eq_true c
      obtain ⟨v, hv, hm⟩ := at_mem h0 c'
      obtain ⟨n, hn, rfl⟩ := List.mem_map.mp hm
      exact ⟨_, rfl, _, rfl, a, _, _, _, rfl, rfl, hS, hv, q n⟩
    · exact q 0

/-! ### _law_whole -/
theorem scLWhole : FnScope ["_law_found"] ["_law_found"] (C8.fnScope (top 45)) := ⟨rfl, rfl, rfl, by decide +kernel, rfl, by decide +kernel, by decide +kernel⟩
theorem ok_lwhole (D : Df K mg "_law_whole" "_law_whole" (top 45) ["_law_found"]) (B : Bt mg) : C8.Cal P w K mg base (k + 1) "_law_whole" spWhole [] := by
  refine D.cal scLWhole (fun vs H Q E h => ?_) (fun f cdv A outer s H vs Q E hr h => ?_)
  · obtain ⟨_, rfl, _⟩ := h
    rfl
  · obtain ⟨i, rfl, q⟩ := h
    refine ⟨_, pss_one (ps_ret (pe_and (pe_callB call_isi (by rfl) B.isi boot_isinstance (pa_cons (pv 0) (pa_cons (pe_ty (by rfl) B.int boot_int) pa_nil)))
      (pe_one (pe_not (pe_callB call_isi (by rfl) B.isi boot_isinstance (pa_cons (pv 0) (pa_cons (pe_ty (by rfl) B.bool boot_bool) pa_nil))))))), ?_⟩
    exact ⟨_, rfl, _, _, _, _, _, rfl, .ty _, .base (.int _), kit_ty k_int_int, ⟨true, rfl, iteT ⟨_, rfl, _, _, _, _, _, rfl, .ty _, .base (.int _), kit_ty k_int_bool, ⟨false, rfl, q⟩⟩⟩⟩

/-! ### _law_mixed -/
def spMixed : Sp := fun vs H Q _ => ∃ c k : Int, vs = [.int c, .int k] ∧ ∀ n : Int, 0 ≤ n → n < 2147483647 → Q (.int n) H
theorem scMixed : FnScope ["_law_cell", "_law_k", "_law_number"] ["_law_cell", "_law_k"] (C8.fnScope (top 46)) := ⟨rfl, rfl, rfl, by decide +kernel, rfl, by decide +kernel, by decide +kernel⟩
theorem mod_lo (n : Int) : 0 ≤ n % 2147483647 := Int.emod_nonneg _ (by decide)
theorem mod_hi (n : Int) : n % 2147483647 < 2147483647 := Int.emod_lt_of_pos _ (by decide)
theorem ok_mixed (D : Df K mg "_law_mixed" "_law_mixed" (top 46) ["_law_cell", "_law_k"]) : C8.Cal P w K mg base (k + 1) "_law_mixed" spMixed [] := by
  refine D.cal scMixed (fun vs H Q E h => ?_) (fun f cdv A outer s H vs Q E hr h => ?_)
  · obtain ⟨_, _, rfl, _⟩ := h
    rfl
  · obtain ⟨c, k, rfl, q⟩ := h
    refine ⟨_, pss_cons (ps_set (i := 2) scMixed.nd rfl (Or.inl rfl) (pe_op op_mod (pe_op op_add (pe_op op_add (pe_op op_mul (pv 0) pe_int) (pe_op op_mul pe_int (pv 1))) pe_int) pe_int))
      (pss_one (ps_ret (pe_op op_mod (pe_op op_mul (pe_op op_mod (pe_op op_mul (pv 2) (pv 2)) pe_int) (pv 2)) pe_int))), ?_⟩
    refine ⟨_, rfl, _, _, rfl, rfl, .inr ⟨by decide, by decide⟩, _, rfl, _, _, rfl, rfl, .inl ⟨by decide, by decide⟩, _, _, rfl, rfl, _, _, rfl, rfl, _, _, rfl, rfl, (by show (0 : Int) < 2147483647; decide), ?_⟩
    have l1 := mod_lo (c * 48271 + 7919 * k + 12345)
    have h1 := mod_hi (c * 48271 + 7919 * k + 12345)
    generalize hn : (c * 48271 + 7919 * k + 12345) % 2147483647 = n at l1 h1
    refine ⟨_, (congrArg (fun z => some (some (V.int z))) hn), _, (congrArg (fun z => some (some (V.int z))) hn), _, _, rfl, rfl, .inl ⟨by omega, by omega⟩, _, _, rfl, rfl, (by show (0 : Int) < 2147483647; decide), _, (congrArg (fun z => some (some (V.int z))) hn), _, _, rfl, rfl, .inr ⟨by omega, by omega⟩, _, _, rfl, rfl, (by show (0 : Int) < 2147483647; decide), ?_⟩
    exact q _ (mod_lo _) (mod_hi _)

/-! ### _law_text_by -/
def spTextBy : Sp := fun vs H Q _ => ∃ (c : Int) (im : Int) (m : Nat), vs = [.int c, .int im] ∧ im = (m : Int) ∧ m ≤ 1000 ∧ ∀ H' l, Same H H' → OkT l → l.length = m → Q (.str (S l)) H'
theorem scTextBy : FnScope ["_law_cell", "_law_many", "_law_some", "_law_text", "_law_k", "_law_number"] ["_law_cell", "_law_many"] (C8.fnScope (top 47)) := ⟨rfl, rfl, rfl, by decide +kernel, rfl, by decide +kernel, by decide +kernel⟩
theorem ok_textBy (D : Df K mg "_law_text_by" "_law_text_by" (top 47) ["_law_cell", "_law_many"]) (B : Bt mg) (Gm : C8.Cal P w K mg base 1 "_law_mixed" spMixed []) : C8.Cal P w K mg base 2 "_law_text_by" spTextBy [] := by
  refine D.cal scTextBy (fun vs H Q E h => ?_) (fun f cdv A outer s H vs Q E hr h => ?_)
  · obtain ⟨_, _, _, rfl, _⟩ := h
    rfl
  · obtain ⟨c, _, m, rfl, rfl, hm, q⟩ := h
    refine ⟨_, pss_cons (ps_set (i := 2) scTextBy.nd rfl (Or.inl rfl) pe_str)
      (pss_cons (ps_set (i := 2) scTextBy.nd rfl (Or.inl rfl) (pe_op op_add_str (pv 2) pe_str))
      (pss_cons (ps_set (i := 3) scTextBy.nd rfl (Or.inl rfl) pe_str)
      (pss_cons (ps_for PassesOwn.never rfl (pi_range1 (by rfl) B.range (pa_cons (pv 1) pa_nil)) (pg_name (i := 4) scTextBy.nd rfl (Or.inl rfl))
        (pss_cons (ps_set (i := 5) scTextBy.nd rfl (Or.inl rfl) (C8.pe_c Gm hr (by decide) (by rfl) (pa_cons (pv 0) (pa_cons (pv 4) pa_nil))))
        (pss_one (ps_set (i := 3) scTextBy.nd rfl (Or.inl rfl) (pe_op op_add_str (pv 3) (pe_ix ix_list (pe_lst (pa_cons pe_str (pa_cons (pe_ix ix_str pe_str (pe_op op_mod (pe_op op_fdiv (pv 5) pe_int) pe_int) (fun _ _ => rfl))
          (pa_cons (pe_ix ix_str (pv 2) (pe_op op_mod (pe_op op_fdiv (pv 5) pe_int) pe_int) (fun _ _ => rfl)) (pa_cons (pe_ix ix_str (pv 2) (pe_op op_mod (pe_op op_fdiv (pv 5) pe_int) pe_int) (fun _ _ => rfl)) pa_nil))))) (pe_op op_mod (pv 5) pe_int) (fun _ _ => rfl)))))))
      (pss_one (ps_ret (pv 3)))))), ?_⟩
    refine ⟨_, rfl, _, _, rfl, rfl, some_fit, ?_⟩
    rw [some_S]
    show _
    refine ⟨_, rfl, (m : Int), rfl, by omega, by omega, for_it walk_range (fun i σ H' => ∃ l v4 v5, σ = [some (.int c), some (.int (m : Int)), some (.str (S SOME)), some (.str (S l)), v4, v5] ∧ Same H H' ∧ OkT l ∧ l.length = i) ⟨[], none, none, ?_, Same.refl _, okt_nil, rfl⟩ (fun _ _ _ _ _ => trivial) ?_ ?_⟩
    · rw [← em_S]
      rfl
    · rintro i x σ H1 H2 hi ⟨l, v4, v5, rfl, s1, ok, hl⟩ ⟨rfl, rfl⟩
      have hi' : i < m := by omega
      refine ⟨_, rfl, _, rfl, _, _, rfl, fun n n0 n1 => ?_⟩
      have r2 : 0 ≤ n / 8 % 2 ∧ n / 8 % 2 < 2 := ⟨Int.emod_nonneg _ (by decide), Int.emod_lt_of_pos _ (by decide)⟩
      have r94 : 0 ≤ n / 8 % 94 ∧ n / 8 % 94 < 94 := ⟨Int.emod_nonneg _ (by decide), Int.emod_lt_of_pos _ (by decide)⟩
      have r4 : 0 ≤ n % 4 ∧ n % 4 < 4 := ⟨Int.emod_nonneg _ (by decide), Int.emod_lt_of_pos _ (by decide)⟩
      obtain ⟨c1, hc1, m1⟩ := at_mem (l := [97, 98]) r2.1 r2.2
      obtain ⟨c2, hc2, m2⟩ := at_mem (l := SOME) r94.1 (by rw [some_len]; exact r94.2)
      obtain ⟨v, hv, mv⟩ := at_mem (l := [V.str "\n", V.str ⟨#[c1]⟩, V.str ⟨#[c2]⟩, V.str ⟨#[c2]⟩]) r4.1 r4.2
      have okv : ∃ d, v = V.str (S [d]) ∧ okc d = true := by
        rcases List.mem_cons.mp mv with e | mv
        · exact ⟨10, by rw [e, nl_S], by decide⟩
        rcases List.mem_cons.mp mv with e | mv
        · refine ⟨c1, e, ?_⟩
          rcases List.mem_cons.mp m1 with e1 | m1
          · rw [e1]
            decide
          · rw [List.mem_singleton.mp m1]
            decide
        rcases List.mem_cons.mp mv with e | mv
        · exact ⟨c2, e, some_ok c2 m2⟩
        · exact ⟨c2, List.mem_singleton.mp mv, some_ok c2 m2⟩
      obtain ⟨d, rfl, okd⟩ := okv
      have lenS : (S SOME).length ≤ sizeLine := S_le (by rw [some_len]; decide)
      refine ⟨_, rfl, _, rfl, _, _, rfl, rfl, ⟨by decide, by decide⟩, _, _, rfl, rfl, (by show (0 : Int) < 2; decide), _, _, c1, rfl, rfl, (by decide +kernel), (by rw [ab_S]; exact hc1), ?_⟩
      refine ⟨_, rfl, _, rfl, _, _, rfl, rfl, ⟨by decide, by decide⟩, _, _, rfl, rfl, (by show (0 : Int) < 94; decide), _, _, c2, rfl, rfl, lenS, hc2, ?_⟩
      refine ⟨_, rfl, _, rfl, _, _, rfl, rfl, ⟨by decide, by decide⟩, _, _, rfl, rfl, (by show (0 : Int) < 94; decide), _, _, c2, rfl, rfl, lenS, hc2, (by show 4 ≤ sizeLine; decide), fun L hL => ?_⟩
      refine ⟨_, rfl, _, _, rfl, rfl, (by show (0 : Int) < 4; decide), L, _, _, _, rfl, rfl, SqL.of upd_same, hv, _, _, rfl, rfl, ?_, ?_⟩
      · rw [S_len, S_len]
        exact sz_le (by rw [hl]; show i + 1 ≤ 100000; omega)
      · rw [S_cat]
        refine ⟨l ++ [d], _, _, rfl, s1.trans (same_new hL _), okt_app ok (fun z hz => ?_), ?_⟩
        · rw [List.mem_singleton.mp hz]
          exact okd
        · rw [List.length_append, hl]
          rfl
    · rintro σ H1 ⟨l, v4, v5, rfl, s1, ok, hl⟩
      exact ⟨_, rfl, q H1 l s1 ok (by omega)⟩
end
end Ink
end
section
namespace Ink
open PySem PySem.Spec PyProof.Rows L2 SX

/-! ### lists of parts -/
theorem PartsAt.nil {H : Hp} : PartsAt H [] [] := ⟨rfl, fun i p e => by simp at e⟩
theorem PartsAt.one {H : Hp} {v : V} {p : Part} (h : PartAt H v p) : PartsAt H [v] [p] := ⟨rfl, fun i q e => by
  cases i with
  | zero =>
    have e' : p = q := Option.some.inj e
    exact ⟨v, rfl, e' ▸ h⟩
  | succ i => simp at e⟩
theorem PartsAt.app {H : Hp} {xs ys : List V} {as bs : List Part} (h1 : PartsAt H xs as) (h2 : PartsAt H ys bs) : PartsAt H (xs ++ ys) (as ++ bs) := by
  refine ⟨by rw [List.length_append, List.length_append, h1.len, h2.len], fun i p e => ?_⟩
  by_cases hi : i < as.length
  · rw [List.getElem?_append_left hi] at e
    obtain ⟨v, q1, q2⟩ := h1.at_ i p e
    exact ⟨v, by rw [List.getElem?_append_left (by rw [h1.len]; exact hi)]; exact q1, q2⟩
  · rw [List.getElem?_append_right (by omega)] at e
    obtain ⟨v, q1, q2⟩ := h2.at_ _ p e
    exact ⟨v, by rw [List.getElem?_append_right (by rw [h1.len]; omega), h1.len]; exact q1, q2⟩
theorem PartsAt.tail {H : Hp} {v : V} {vs : List V} {p : Part} {cs : List Part} (h : PartsAt H (v :: vs) (p :: cs)) : PartAt H v p ∧ PartsAt H vs cs := by
  obtain ⟨u, e, q⟩ := h.at_ 0 p rfl
  have e' : v = u := Option.some.inj e
  refine ⟨e' ▸ q, ⟨by have := h.len; simpa using this, fun i c e => ?_⟩⟩
  exact h.at_ (i + 1) c e
theorem PartsAt.snoc {H : Hp} {vs : List V} {g : List Part} {b : Part} (h : PartsAt H vs (g ++ [b])) : ∃ gvs v, vs = gvs ++ [v] ∧ PartsAt H gvs g ∧ PartAt H v b := by
  have hl := h.len
  rw [List.length_append, List.length_singleton] at hl
  have hne : vs ≠ [] := by
    intro z
    rw [z] at hl
    simp at hl
  have ev : vs = vs.dropLast ++ [vs.getLast hne] := (List.dropLast_concat_getLast hne).symm
  have hdl : vs.dropLast.length = g.length := by rw [List.length_dropLast, hl, Nat.add_sub_cancel]
  refine ⟨vs.dropLast, vs.getLast hne, ev, ⟨hdl, fun i p e => ?_⟩, ?_⟩
  · have hi : i < g.length := (List.getElem?_eq_some_iff.mp e).1
    obtain ⟨v, q1, q2⟩ := h.at_ i p (by rw [List.getElem?_append_left hi]; exact e)
    rw [ev, List.getElem?_append_left (by omega)] at q1
    exact ⟨v, q1, q2⟩
  · obtain ⟨v, q1, q2⟩ := h.at_ g.length b (by rw [List.getElem?_append_right (Nat.le_refl _), Nat.sub_self]; rfl)
    rw [ev, List.getElem?_append_right (by omega), hdl, Nat.sub_self] at q1
    have e' : vs.getLast hne = v := Option.some.inj q1
    rw [e']
    exact q2
theorem tk_updL {H : Hp} {a : Addr} {xs ys : List V} (h : H a = some (.lst xs)) : TK H (upd H a (.lst ys)) := fun b zs e => by
  rw [upd_ne (ne_of e h (by intro z; cases z))]
  exact e
theorem same_updL {H H' : Hp} {a : Addr} {o : HO} (s : Same H H') (h : H a = none) : Same H (upd H' a o) := fun b u e => by
  rw [upd_ne (ne_of_none e h)]
  exact s b u e

/-! ### == of lists of parts -/
def dataP : Part → PyData
  | .keep n => .tuple [.str "keep", .int (n : Int)]
  | .cut x => .tuple [.str "cut", .str (S x)]
  | .put x => .tuple [.str "put", .str (S x)]
theorem strOk_S {x : List Nat} (h : OkT x) : PyData.strOk (S x) = true := by
  show (S x).cps.all (· < 0x110000) = true
  rw [← Array.all_toList]
  show x.all (· < 0x110000) = true
  rw [List.all_eq_true]
  intro c hc
  have q := h c hc
  unfold okc at q
  simp only [Bool.or_eq_true, Bool.and_eq_true, decide_eq_true_eq] at q
  exact decide_eq_true (by omega)
theorem strOk_keep : PyData.strOk "keep" = true := by decide +kernel
theorem strOk_cut : PyData.strOk "cut" = true := by decide +kernel
theorem strOk_put : PyData.strOk "put" = true := by decide +kernel
theorem strOk_w : ∀ p : Part, PyData.strOk (wordOf p) = true
  | .keep _ => strOk_keep
  | .cut _ => strOk_cut
  | .put _ => strOk_put
theorem dataP_lay {p : Part} (h : good p) : (dataP p).canLay0 = true := by
  cases p with
  | keep n => simp [dataP, PyData.canLay0, PyData.canLayAll0, strOk_w (.keep n)]; exact strOk_w (.keep n)
  | cut x => simp [dataP, PyData.canLay0, PyData.canLayAll0]; exact ⟨strOk_w (.cut x), strOk_S h.2⟩
  | put x => simp [dataP, PyData.canLay0, PyData.canLayAll0]; exact ⟨strOk_w (.put x), strOk_S h.2⟩
theorem dataP_depth (p : Part) : (dataP p).depth = 1 := by cases p <;> simp [dataP, PyData.depth, PyData.depthAll]
theorem dataPs_lay : ∀ {cs : List Part}, (∀ p ∈ cs, good p) → PyData.canLayAll0 (cs.map dataP) = true
  | [], _ => by simp [PyData.canLayAll0]
  | p :: r, h => by
    have h1 := dataP_lay (h p (List.mem_cons_self ..))
    have h2 := dataPs_lay (cs := r) fun q hq => h q (List.mem_cons_of_mem _ hq)
    simp [PyData.canLayAll0, h1, h2]
theorem dataPs_depth : ∀ cs : List Part, PyData.depthAll (cs.map dataP) ≤ 1
  | [] => by simp [PyData.depthAll]
  | p :: r => by
    have h1 := dataPs_depth r
    have h2 := dataP_depth p
    simp only [List.map_cons, PyData.depthAll]
    omega
theorem dataPs_shaped {cs : List Part} (h : ∀ p ∈ cs, good p) : SeqAt.shaped (.list (cs.map dataP)) = true := by
  have h1 := dataPs_depth cs
  have h2 : PyData.depth (.list (cs.map dataP)) ≤ 64 := by
    simp only [PyData.depth]
    omega
  show (PyData.canLay0 (.list (cs.map dataP)) && decide (PyData.depth (.list (cs.map dataP)) ≤ 64)) = true
  rw [Bool.and_eq_true]
  exact ⟨by simp only [PyData.canLay0]; exact dataPs_lay h, decide_eq_true h2⟩
theorem eqv_nil : (!PyData.eqv (.list (([] : List Part).map dataP)) (.list [])) = false := by simp [PyData.eqv, PyData.eqvAll]
theorem eqv_snoc (g : List Part) (b : Part) : (!PyData.eqv (.list ((g ++ [b]).map dataP)) (.list [])) = true := by
  cases g with
  | nil => simp [PyData.eqv, PyData.eqvAll]
  | cons x r => simp [PyData.eqv, PyData.eqvAll]
theorem iteA {b : Bool} {A B : Prop} (e : b = true) (h : A) : if b = true then A else B := by
  rw [e]
  exact iteT h
theorem iteB {b : Bool} {A B : Prop} (e : b = false) (h : B) : if b = true then A else B := by
  rw [e]
  exact iteF h
theorem dp_part {K : PySem.W.Frag} {H : Hp} {v : V} {p : Part} (h : PartAt H v p) : Dp K H v (dataP p) := by
  obtain ⟨a, rfl, ha⟩ := h
  cases p with
  | keep n => exact .tup (SqT.of ha) (.cons (.str _) (.cons (.int _) .nil))
  | cut x => exact .tup (SqT.of ha) (.cons (.str _) (.cons (.str _) .nil))
  | put x => exact .tup (SqT.of ha) (.cons (.str _) (.cons (.str _) .nil))
theorem dp_all {K : PySem.W.Frag} {H : Hp} : ∀ {cs : List Part} {vs : List V}, PartsAt H vs cs → DpAll K H vs (cs.map dataP)
  | [], [], _ => .nil
  | [], v :: vs, h => by
    have := h.len
    simp at this
  | p :: cs, [], h => by
    have := h.len
    simp at this
  | p :: cs, v :: vs, h => .cons (dp_part h.tail.1) (dp_all h.tail.2)

/-! ### a list one or no times -/
def kz (x : List Nat) : Int := if (!decide (V.str (S x) = V.str "")) = true then 1 else 0
theorem kz_nil : kz [] = 0 := by
  unfold kz
  rw [decide_eq_true (congrArg V.str em_S.symm)]
  rfl
theorem kz_one {x : List Nat} (h : x ≠ []) : kz x = 1 := by
  unfold kz
  rw [decide_eq_false (S_ne h)]
  rfl
theorem kz_b (x : List Nat) : 0 ≤ kz x ∧ kz x ≤ 1 := by
  by_cases h : x = []
  · rw [h, kz_nil]
    decide
  · rw [kz_one h]
    decide
theorem ixN_last {α : Type} (xs : List α) (v : α) : ixN (xs ++ [v]).length (-1) = some xs.length := by
  rw [List.length_append, List.length_singleton]
  unfold ixN
  rw [if_neg (by decide), if_pos (by omega)]
  congr 1
  omega

theorem rep1 (x : List Nat) (v : V) : (List.replicate (kz x).toNat [v]).flatten = if x = [] then [] else [v] := by
  by_cases h : x = []
  · rw [if_pos h, h, kz_nil]
    rfl
  · rw [if_neg h, kz_one h]
    rfl
theorem rep_len (x : List Nat) (v : V) : (List.replicate (kz x).toNat [v]).flatten.length ≤ 1 := by
  rw [rep1]
  by_cases h : x = []
  · rw [if_pos h]
    exact Nat.zero_le _
  · rw [if_neg h]
    exact Nat.le_refl _
theorem rep_parts {H : Hp} {v : V} {p : Part} (x : List Nat) (h : PartAt H v p) : PartsAt H ((List.replicate (kz x).toNat [v]).flatten) (if x = [] then [] else [p]) := by
  rw [rep1]
  by_cases q : x = []
  · rw [if_pos q, if_pos q]
    exact PartsAt.nil
  · rw [if_neg q, if_neg q]
    exact PartsAt.one h
theorem set_last {α : Type} (g : List α) (v u : α) : (g ++ [v]).set g.length u = g ++ [u] := by
  rw [List.set_append_right _ _ (Nat.le_refl _), Nat.sub_self]
  rfl

/-! ### the folds -/
def Fo (rs : List Part) (i : Nat) : NSt := (rs.take i).foldl stepN ⟨[], [], []⟩
theorem Fo_succ {rs : List Part} {i : Nat} {r : Part} (h : rs[i]? = some r) : Fo rs (i + 1) = stepN (Fo rs i) r := by
  unfold Fo
  rw [take_snoc h, List.foldl_append]
  rfl
theorem over_le : ∀ (cs : List Part) (i : Nat), over (cs.take i) ≤ over cs
  | [], i => by rw [List.take_nil]; exact Nat.le_refl _
  | p :: r, 0 => Nat.zero_le _
  | p :: r, i + 1 => by
    have ih := over_le r i
    show over1 p + over (r.take i) ≤ over1 p + over r
    omega
theorem step_c (s : NSt) (r : Part) : (stepN s r).c.length ≤ s.c.length + over1 r := by
  cases r with
  | put x => exact Nat.le_refl _
  | cut x =>
    show (s.c ++ x).length ≤ s.c.length + x.length
    rw [List.length_append]
    exact Nat.le_refl _
  | keep n =>
    by_cases hn : 0 < n
    · have e : stepN s (.keep n) = ⟨keepOn (s.f ++ flushP s.p s.c) n, [], []⟩ := if_pos hn
      rw [e]
      exact Nat.zero_le _
    · have e : stepN s (.keep n) = s := if_neg hn
      rw [e]
      exact Nat.le_add_right _ _
theorem fold_c : ∀ {rs : List Part} {s : NSt}, (rs.foldl stepN s).c.length ≤ s.c.length + over rs
  | [], s => Nat.le_refl _
  | r :: rs, s => by
    have ih := fold_c (rs := rs) (s := stepN s r)
    have h := step_c s r
    show (rs.foldl stepN (stepN s r)).c.length ≤ s.c.length + (over1 r + over rs)
    omega
theorem Fo_b (rs : List Part) (i : Nat) : (Fo rs i).f.length ≤ rs.length ∧ (Fo rs i).p.length ≤ puts rs ∧ (Fo rs i).c.length ≤ over rs := by
  have h1 := fold_len (rs := rs.take i) (s := ⟨[], [], []⟩)
  have h2 := fold_puts (rs := rs.take i) (s := ⟨[], [], []⟩)
  have h3 := fold_c (rs := rs.take i) (s := ⟨[], [], []⟩)
  have p1 := puts_le rs i
  have p2 := over_le rs i
  have h1' : (Fo rs i).f.length + b01 (Fo rs i).p + b01 (Fo rs i).c ≤ 0 + 0 + 0 + (rs.take i).length := h1
  have h2' : puts (Fo rs i).f + (Fo rs i).p.length = 0 + 0 + puts (rs.take i) := h2
  have h3' : (Fo rs i).c.length ≤ 0 + over (rs.take i) := h3
  rw [List.length_take] at h1'
  refine ⟨by omega, by omega, by omega⟩
theorem neatL_Fo (rs : List Part) : neatL rs = (Fo rs rs.length).f ++ flushP (Fo rs rs.length).p (Fo rs rs.length).c := by
  unfold Fo
  rw [List.take_length]
  rfl
theorem Fo_inv {rs : List Part} (h : ∀ r ∈ rs, rawOk r) (i : Nat) : NInv (Fo rs i) := fold_inv inv0 fun r hr => h r (List.mem_of_mem_take hr)
theorem lastK_else {g : List Part} {b : Part} (h : ∀ m, b ≠ .keep m) : lastK (g ++ [b]) = none := by
  unfold lastK
  rw [List.getLast?_append]
  cases b with
  | keep m => exact absurd rfl (h m)
  | cut x => rfl
  | put x => rfl

theorem w_end_put : ¬ V.str "end" = V.str "put" := str_ne (by decide +kernel)
theorem w_end_cut : ¬ V.str "end" = V.str "cut" := str_ne (by decide +kernel)
theorem w_end_keep : ¬ V.str "end" = V.str "keep" := str_ne (by decide +kernel)
theorem w_keep_end : ¬ V.str "keep" = V.str "end" := str_ne (by decide +kernel)

section
variable {P : Program} {w : World} {K : PySem.W.Frag} {mg : Str → Option Value} {base : Heap} {k : Nat} {CP CS : Addr}

/-! ### _law_neat -/
def spNeat : Sp := fun vs H Q _ => ∃ (a : Addr) (rs : List Part), vs = [.ref a] ∧ ChAt H a rs ∧ (∀ r ∈ rs, rawOk r) ∧ rs.length ≤ 100 ∧ puts rs ≤ 50000 ∧ over rs ≤ 50000 ∧ ∀ H' b, Same H H' → ChAt H' b (neatL rs) → Q (.ref b) H'
theorem scNeat : FnScope ["_law_parts", "_law_found", "_law_put", "_law_cut", "_law_word", "_law_thing"] ["_law_parts"] (C8.fnScope (top 48)) := ⟨rfl, rfl, rfl, by decide +kernel, rfl, by decide +kernel, by decide +kernel⟩
theorem ok_neat (D : Df K mg "_law_neat" "_law_neat" (top 48) ["_law_parts"]) (B : Bt mg) : C8.Cal P w K mg base (k + 1) "_law_neat" spNeat [] := by
  refine D.cal scNeat (fun vs H Q E h => ?_) (fun f cdv A outer s H vs Q E hr h => ?_)
  · obtain ⟨_, _, rfl, _⟩ := h
    rfl
  · obtain ⟨a, rs, rfl, ⟨rvs, ha, hps⟩, hraw, hln, hpu, hov, q⟩ := h
    refine ⟨_, pss_cons (ps_set (i := 1) scNeat.nd rfl (Or.inl rfl) (pe_lst pa_nil))
      (pss_cons (ps_set (i := 2) scNeat.nd rfl (Or.inl rfl) pe_str)
      (pss_cons (ps_set (i := 3) scNeat.nd rfl (Or.inl rfl) pe_str)
      (pss_cons (ps_for PassesOwn.never rfl (pi_list (pe_op op_cat (pv 0) (pe_lst (pa_cons (pe_tup (pa_cons pe_str (pa_cons pe_int pa_nil))) pa_nil)))) (pg_tup rfl (pgs_cons (pg_name (i := 4) scNeat.nd rfl (Or.inl rfl)) (pgs_cons (pg_name (i := 5) scNeat.nd rfl (Or.inl rfl)) pgs_nil)))
        (pss_one (ps_if (pt_cmpR op_eq (pv 4) pe_str (nomark _)) (pss_one (ps_set (i := 2) scNeat.nd rfl (Or.inl rfl) (pe_op op_add_str (pv 2) (pv 5))))
          (pss_one (ps_if (pt_cmpR op_eq (pv 4) pe_str (nomark _)) (pss_one (ps_set (i := 3) scNeat.nd rfl (Or.inl rfl) (pe_op op_add_str (pv 3) (pv 5))))
            (pss_one (ps_if (PW.pt (pw_or (pt_cmpR op_eq (pv 4) pe_str (nomark _)) (pw_or1 (pt_cmpR op_gt (pv 5) pe_int (nomark _)))))
              (C8.pss_cut (ps_set (i := 1) scNeat.nd rfl (Or.inl rfl) (pe_op op_cat (pe_op op_cat (pv 1) (pe_op op_rep (pe_lst (pa_cons (pe_tup (pa_cons pe_str (pa_cons (pv 2) pa_nil))) pa_nil)) (pe_callTy call_int1 (by rfl) B.int boot_int (pa_cons (pe_cmpR op_ne (pv 2) pe_str (nomark _)) pa_nil))))
                  (pe_op op_rep (pe_lst (pa_cons (pe_tup (pa_cons pe_str (pa_cons (pv 3) pa_nil))) pa_nil)) (pe_callTy call_int1 (by rfl) B.int boot_int (pa_cons (pe_cmpR op_ne (pv 3) pe_str (nomark _)) pa_nil)))))
              (pss_cons (ps_set (i := 2) scNeat.nd rfl (Or.inl rfl) pe_str)
              (pss_cons (ps_set (i := 3) scNeat.nd rfl (Or.inl rfl) pe_str)
              (pss_one (ps_if (PW.pt (pw_and (pt_cmpR op_eq (pv 4) pe_str (nomark _)) (pw_and (pt_cmpR (op_neD hr.units) (pv 1) (pe_lst pa_nil) (nomark _)) (pw_and1 (pt_cmpR op_eq (pe_ix ix_tup (pe_ix ix_list (pv 1) (pe_un un_neg pe_int) (fun _ _ => rfl)) pe_int (fun _ _ => rfl)) pe_str (nomark _))))))
                (pss_one (ps_asg (pe_tup (pa_cons pe_str (pa_cons (pe_op op_add (pe_ix ix_tup (pe_ix ix_list (pv 1) (pe_un un_neg pe_int) (fun _ _ => rfl)) pe_int (fun _ _ => rfl)) (pv 5)) pa_nil))) (pg_sub (pv 1) (pe_un un_neg pe_int) set_list)))
                (pss_one (ps_if (pt_cmpR op_eq (pv 4) pe_str (nomark _)) (pss_one (ps_expr (pe_bm PySem.F.plainAttrs_list PySem.F.slot_list_append PySem.F.type_list_append mt_append (pv 1) (pa_cons (pe_tup (pa_cons pe_str (pa_cons (pv 5) pa_nil))) pa_nil)))) pss_nil)))))))
              pss_nil)))))))
      (pss_one (ps_ret (pv 1)))))), ?_⟩
    refine ⟨(by show 0 ≤ sizeLine; decide), fun f0 hf0 => ?_⟩
    have s0 := same_new hf0 (HO.lst [])
    refine ⟨_, rfl, (by show 2 ≤ sizeLine; decide), fun te hte => ⟨(by show 1 ≤ sizeLine; decide), fun le hle => ?_⟩⟩
    have s1 := same_new hte (HO.tup [V.str "end", V.int 0])
    have s2 := same_new hle (HO.lst [V.ref te])
    have hvl := hps.len
    refine ⟨a, le, rvs, _, rfl, rfl, s2 _ _ (s1 _ _ (s0 _ _ ha)), upd_same, ?_, fun L hL => ?_⟩
    · exact sz_le (by rw [hvl, List.length_singleton]; omega)
    have s3 := same_new hL (HO.lst (rvs ++ [V.ref te]))
    have hf3 := s3 _ _ (s2 _ _ (s1 _ _ (upd_same (H := H) (a := f0) (o := HO.lst []))))
    have hte3 := s3 _ _ (s2 _ _ (upd_same (H := upd H f0 (HO.lst [])) (a := te) (o := HO.tup [V.str "end", V.int 0])))
    have hL3 := upd_same (H := upd (upd (upd H f0 (HO.lst [])) te (HO.tup [V.str "end", V.int 0])) le (HO.lst [V.ref te])) (a := L) (o := HO.lst (rvs ++ [V.ref te]))
    have sAll := (((s0.trans s1).trans s2).trans s3)
    generalize hH3 : upd (upd (upd (upd H f0 (HO.lst [])) te (HO.tup [V.str "end", V.int 0])) le (HO.lst [V.ref te])) L (HO.lst (rvs ++ [V.ref te])) = H3 at s3 hf3 hte3 hL3 sAll ⊢
    refine ⟨L, rfl, ⟨_, SqL.of hL3⟩, for_it (walk_list (K := K) (a := L) (xs := rvs ++ [V.ref te])) (fun i σ H' => ∃ (fa : Addr) (fvs : List V) (s : NSt) (v4 v5 : Option V), σ = [some (.ref a), some (.ref fa), some (.str (S s.p)), some (.str (S s.c)), v4, v5] ∧ Same H3 H' ∧
        H' fa = some (.lst fvs) ∧ PartsAt H' fvs s.f ∧ (i ≤ rs.length → s = Fo rs i) ∧ (rs.length < i → s.f = neatL rs)) ?_ (fun i σ H' hi h => ?_) ?_ ?_⟩
    · refine ⟨f0, [], ⟨[], [], []⟩, none, none, ?_, Same.refl _, hf3, PartsAt.nil, fun _ => rfl, fun z => absurd z (Nat.not_lt_zero _)⟩
      show _ = [some (V.ref a), some (V.ref f0), some (V.str (S [])), some (V.str (S [])), none, none]
      rw [← em_S]
      rfl
    · obtain ⟨_, _, _, _, _, _, sm, _⟩ := h
      exact SqL.of (sm _ _ hL3)
    · rintro i x σ H4 H5 hi ⟨fa, fvs, ss, v4, v5, rfl, sm, hfa, hpf, hF, _⟩ ⟨rfl, hx⟩
      have hin : i ≤ rs.length := by
        have hi' : i < (rvs ++ [V.ref te]).length := hi
        rw [List.length_append, List.length_singleton, hvl] at hi'
        omega
      obtain rfl := hF hin
      obtain ⟨bf, bp, bc⟩ := Fo_b rs i
      have kind : ∃ (pc : Addr) (wd : Str) (th : V), x = .ref pc ∧ H3 pc = some (.tup [.str wd, th]) ∧
          ((wd = "put" ∧ ∃ y, th = .str (S y) ∧ rs[i]? = some (.put y)) ∨ (wd = "cut" ∧ ∃ y, th = .str (S y) ∧ rs[i]? = some (.cut y)) ∨
           (∃ m : Int, th = .int m ∧ ¬ V.str wd = V.str "put" ∧ ¬ V.str wd = V.str "cut" ∧ (V.str wd = V.str "end" ∨ (¬ V.str wd = V.str "end" ∧ 0 < m)) ∧ ((wd = "end" ∧ i = rs.length) ∨ (wd = "keep" ∧ ∃ mm : Nat, m = (mm : Int) ∧ 0 < mm ∧ rs[i]? = some (.keep mm)))) ∨
           (wd = "keep" ∧ th = .int 0 ∧ rs[i]? = some (.keep 0))) := by
        by_cases hlt : i < rs.length
        · rw [List.getElem?_append_left (by rw [hvl]; exact hlt)] at hx
          obtain ⟨c, hc, pc, rfl, hpt⟩ := hps.get hx
          cases c with
          | put y => exact ⟨pc, _, _, rfl, sAll _ _ hpt, .inl ⟨rfl, y, rfl, hc⟩⟩
          | cut y => exact ⟨pc, _, _, rfl, sAll _ _ hpt, .inr (.inl ⟨rfl, y, rfl, hc⟩)⟩
          | keep m =>
            by_cases hm : 0 < m
            · exact ⟨pc, _, _, rfl, sAll _ _ hpt, .inr (.inr (.inl ⟨(m : Int), rfl, w_keep_put, w_keep_cut, .inr ⟨w_keep_end, by omega⟩, .inr ⟨rfl, m, rfl, hm, hc⟩⟩))⟩
            · have e0 : m = 0 := by omega
              subst e0
              exact ⟨pc, _, _, rfl, sAll _ _ hpt, .inr (.inr (.inr ⟨rfl, rfl, hc⟩))⟩
        · have e : i = rs.length := by omega
          rw [List.getElem?_append_right (by rw [hvl]; omega), hvl, e, Nat.sub_self] at hx
          have e' : V.ref te = x := Option.some.inj hx
          exact ⟨te, _, _, e'.symm, hte3, .inr (.inr (.inl ⟨0, rfl, w_end_put, w_end_cut, .inl rfl, .inl ⟨rfl, e⟩⟩))⟩
      obtain ⟨pc, wd, th, rfl, hpc, kd⟩ := kind
      refine ⟨pc, _, rfl, SqT.of (sm _ _ hpc), rfl, _, _, rfl, _, _, rfl, rfl, ?_⟩
      refine ⟨_, rfl, rfl, _, rfl, ?_⟩
      rcases kd with ⟨rfl, y, rfl, hc⟩ | ⟨rfl, y, rfl, hc⟩ | ⟨m, rfl, n1, n2, hor, fin⟩ | ⟨rfl, rfl, hc⟩
      · have hlt : i < rs.length := (List.getElem?_eq_some_iff.mp hc).1
        have fs := Fo_succ hc
        obtain ⟨_, bp2, _⟩ := Fo_b rs (i + 1)
        rw [fs] at bp2
        have bp3 : ((Fo rs i).p ++ y).length ≤ puts rs := bp2
        refine iteD' rfl ⟨_, rfl, _, rfl, _, _, rfl, rfl, ?_, ?_⟩
        · rw [S_len, S_len, ← List.length_append]
          exact sz_le (by omega)
        · rw [S_cat]
          refine ⟨fa, fvs, Fo rs (i + 1), some (.str "put"), some (.str (S y)), ?_, sm, hfa, ?_, fun _ => rfl, fun z => absurd z (by omega)⟩
          · rw [fs]
            rfl
          · rw [fs]
            exact hpf
      · have hlt : i < rs.length := (List.getElem?_eq_some_iff.mp hc).1
        have fs := Fo_succ hc
        obtain ⟨_, _, bc2⟩ := Fo_b rs (i + 1)
        rw [fs] at bc2
        have bc3 : ((Fo rs i).c ++ y).length ≤ over rs := bc2
        refine iteD w_cut_put ⟨_, rfl, rfl, _, rfl, iteD' rfl ⟨_, rfl, _, rfl, _, _, rfl, rfl, ?_, ?_⟩⟩
        · rw [S_len, S_len, ← List.length_append]
          exact sz_le (by omega)
        · rw [S_cat]
          refine ⟨fa, fvs, Fo rs (i + 1), some (.str "cut"), some (.str (S y)), ?_, sm, hfa, ?_, fun _ => rfl, fun z => absurd z (by omega)⟩
          · rw [fs]
            rfl
          · rw [fs]
            exact hpf
      · refine iteD n1 ⟨_, rfl, rfl, _, rfl, iteD n2 ⟨_, rfl, rfl, _, rfl, ?_⟩⟩
        have fl := hpf.len
        have kp := kz_b (Fo rs i).p
        have kc := kz_b (Fo rs i).c
        have gdF := (flush_neat (Fo_inv hraw i)).gd
        have fnl : ((Fo rs i).f ++ flushP (Fo rs i).p (Fo rs i).c).length ≤ 102 := by
          have q1 := b01_le (Fo rs i).p
          have q2 := b01_le (Fo rs i).c
          rw [List.length_append, flush_len]
          omega
        rcases hor with hw | ⟨hw, hm⟩
        · refine iteD' hw ?_
          refine ⟨fun σ' H' => ∃ (fb : Addr) (gvs : List V), σ' = [some (.ref a), some (.ref fb), some (.str (S (Fo rs i).p)), some (.str (S (Fo rs i).c)), some (.str wd), some (.int m)] ∧ Same H3 H' ∧ H3 fb = none ∧ H' fb = some (.lst gvs) ∧ PartsAt H' gvs ((Fo rs i).f ++ flushP (Fo rs i).p (Fo rs i).c), ?_, ?_⟩
          · refine ⟨_, rfl, _, rfl, (by show 2 ≤ sizeLine; decide), fun t1 ht1 => ?_⟩
            have a1 := same_new ht1 (HO.tup [V.str "put", V.str (S (Fo rs i).p)])
            refine ⟨(by show 1 ≤ sizeLine; decide), fun l1 hl1 => ?_⟩
            have a2 := same_new hl1 (HO.lst [V.ref t1])
            refine ⟨_, rfl, rfl, .inr ⟨_, rfl, l1, kz (Fo rs i).p, [V.ref t1], rfl, rfl, upd_same, by omega, by omega, ?_, fun p1 hp1 => ?_⟩⟩
            · exact sz_le (by show 1 * (kz (Fo rs i).p).toNat ≤ 100000; omega)
            have a3 := same_new hp1 (HO.lst (List.replicate (kz (Fo rs i).p).toNat [V.ref t1]).flatten)
            have r1 := rep_len (Fo rs i).p (V.ref t1)
            refine ⟨fa, p1, fvs, _, rfl, rfl, a3 _ _ (a2 _ _ (a1 _ _ hfa)), upd_same, sz_le (by omega), fun q1 hq1 => ?_⟩
            have a4 := same_new hq1 (HO.lst (fvs ++ (List.replicate (kz (Fo rs i).p).toNat [V.ref t1]).flatten))
            refine ⟨_, rfl, (by show 2 ≤ sizeLine; decide), fun t2 ht2 => ?_⟩
            have a5 := same_new ht2 (HO.tup [V.str "cut", V.str (S (Fo rs i).c)])
            refine ⟨(by show 1 ≤ sizeLine; decide), fun l2 hl2 => ?_⟩
            have a6 := same_new hl2 (HO.lst [V.ref t2])
            refine ⟨_, rfl, rfl, .inr ⟨_, rfl, l2, kz (Fo rs i).c, [V.ref t2], rfl, rfl, upd_same, by omega, by omega, ?_, fun p2 hp2 => ?_⟩⟩
            · exact sz_le (by show 1 * (kz (Fo rs i).c).toNat ≤ 100000; omega)
            have a7 := same_new hp2 (HO.lst (List.replicate (kz (Fo rs i).c).toNat [V.ref t2]).flatten)
            have r2 := rep_len (Fo rs i).c (V.ref t2)
            refine ⟨q1, p2, _, _, rfl, rfl, a7 _ _ (a6 _ _ (a5 _ _ upd_same)), upd_same, sz_le (by rw [List.length_append]; omega), fun q2 hq2 => ?_⟩
            have a8 := same_new hq2 (HO.lst (fvs ++ (List.replicate (kz (Fo rs i).p).toNat [V.ref t1]).flatten ++ (List.replicate (kz (Fo rs i).c).toNat [V.ref t2]).flatten))
            have c14 := ((a1.trans a2).trans a3).trans a4
            have c58 := ((a5.trans a6).trans a7).trans a8
            refine ⟨q2, _, rfl, sm.trans (c14.trans c58), (sm.trans (c14.trans ((a5.trans a6).trans a7))).free hq2, upd_same, ?_⟩
            have f1 := hpf.mono (TK.of (c14.trans c58))
            have f2 := rep_parts (H := _) (p := Part.put (Fo rs i).p) (Fo rs i).p ⟨t1, rfl, (((a2.trans a3).trans a4).trans c58) _ _ upd_same⟩
            have f3 := rep_parts (H := _) (p := Part.cut (Fo rs i).c) (Fo rs i).c ⟨t2, rfl, ((a6.trans a7).trans a8) _ _ upd_same⟩
            have f4 := (f1.app f2).app f3
            rw [List.append_assoc (Fo rs i).f] at f4
            exact f4
          · rintro σ' H6 ⟨fb, gvs, rfl, sm6, hfb3, hfb, hpg⟩
            refine ⟨_, rfl, rfl, _, rfl, ?_⟩
            rcases fin with ⟨rfl, hie⟩ | ⟨rfl, mm, rfl, hmm, hc⟩
            · refine iteD w_end_keep ⟨_, rfl, rfl, _, rfl, iteD w_end_keep ?_⟩
              refine ⟨fb, gvs, ⟨neatL rs, [], []⟩, some (.str "end"), some (.int m), ?_, sm6, hfb, ?_, fun z => absurd z (by omega), fun _ => rfl⟩
              · show _ = [some (V.ref a), some (V.ref fb), some (V.str (S [])), some (V.str (S [])), some (V.str "end"), some (V.int m)]
                rw [← em_S]
                rfl
              · show PartsAt H6 gvs (neatL rs)
                rw [neatL_Fo, ← hie]
                exact hpg
            · have fs := Fo_succ hc
              have hlt : i < rs.length := (List.getElem?_eq_some_iff.mp hc).1
              have fs2 : Fo rs (i + 1) = ⟨keepOn ((Fo rs i).f ++ flushP (Fo rs i).p (Fo rs i).c) mm, [], []⟩ := by
                rw [fs]
                exact if_pos hmm
              generalize (Fo rs i).f ++ flushP (Fo rs i).p (Fo rs i).c = F1 at hpg gdF fnl fs2
              have gl := hpg.len
              have fin2 : ∀ (nvs : List V) (H8 : Hp), Same H3 H8 → H8 fb = some (.lst nvs) → PartsAt H8 nvs (keepOn F1 mm) →
                  ∃ (fa : Addr) (fvs : List V) (s : NSt) (v4 v5 : Option V), [some (V.ref a), some (V.ref fb), some (V.str ""), some (V.str ""), some (V.str "keep"), some (V.int (mm : Int))] = [some (.ref a), some (.ref fa), some (.str (S s.p)), some (.str (S s.c)), v4, v5] ∧ Same H3 H8 ∧
                    H8 fa = some (.lst fvs) ∧ PartsAt H8 fvs s.f ∧ (i + 1 ≤ rs.length → s = Fo rs (i + 1)) ∧ (rs.length < i + 1 → s.f = neatL rs) := fun nvs H8 e1 e2 e3 => by
                refine ⟨fb, nvs, Fo rs (i + 1), some (.str "keep"), some (.int (mm : Int)), ?_, e1, e2, ?_, fun _ => rfl, fun z => absurd z (by omega)⟩
                · rw [fs2]
                  show _ = [some (V.ref a), some (V.ref fb), some (V.str (S [])), some (V.str (S [])), some (V.str "keep"), some (V.int (mm : Int))]
                  rw [← em_S]
                · rw [fs2]
                  exact e3
              refine iteD' rfl ⟨_, rfl, (by show 0 ≤ sizeLine; decide), fun z hz => ?_⟩
              have b1 := same_new hz (HO.lst [])
              refine ⟨.list (F1.map dataP), .list [], .lst (SqL.of (b1 _ _ hfb)) (dp_all (hpg.mono (TK.of b1))), .lst (SqL.of upd_same) .nil, dataPs_shaped gdF, dataPs_shaped (cs := []) (fun _ hz => nomatch hz), _, rfl, ?_⟩
              rcases List.eq_nil_or_concat F1 with e0 | ⟨g, b, e0⟩
              · subst e0
                refine iteB eqv_nil ⟨_, rfl, rfl, _, rfl, iteD' rfl ⟨_, rfl, .inl ⟨rfl, _, SqL.of (b1 _ _ hfb)⟩, _, rfl, (by show 2 ≤ sizeLine; decide), fun tn htn => ?_⟩⟩
                have b2 := same_new htn (HO.tup [V.str "keep", V.int (mm : Int)])
                have hfb2 := b2 _ _ (b1 _ _ hfb)
                refine ⟨fb, _, V.ref tn, rfl, rfl, hfb2, small1000 (by omega), ?_⟩
                refine fin2 _ _ (same_updL (sm6.trans (b1.trans b2)) hfb3) upd_same ?_
                unfold keepOn
                rw [show lastK [] = none from rfl]
                refine PartsAt.app ((hpg.mono (TK.of (b1.trans b2))).mono (tk_updL hfb2)) (PartsAt.one ⟨tn, rfl, ?_⟩)
                refine tk_updL hfb2 _ _ ?_
                rw [upd_same]
                rfl
              · rw [List.concat_eq_append] at e0
                subst e0
                obtain ⟨hvs, u, rfl, hpg2, pl, rfl, hpl⟩ := hpg.snoc
                refine iteA (eqv_snoc g b) ⟨_, rfl, 1, rfl, fb, _, _, _, rfl, rfl, SqL.of (b1 _ _ hfb), atI_last _ _, pl, _, 0, _, rfl, rfl, SqT.of (b1 _ _ hpl), rfl, rfl, _, rfl, ?_⟩
                cases b with
                | keep mk =>
                  refine iteD' rfl ⟨_, rfl, 1, rfl, fb, _, _, _, rfl, rfl, SqL.of (b1 _ _ hfb), atI_last _ _, pl, _, 1, _, rfl, rfl, SqT.of (b1 _ _ hpl), rfl, _, rfl, _, _, rfl, rfl, (by show 2 ≤ sizeLine; decide), fun tn htn => ?_⟩
                  have b2 := same_new htn (HO.tup [V.str "keep", V.int ((mk : Int) + (mm : Int))])
                  have hfb2 := b2 _ _ (b1 _ _ hfb)
                  refine ⟨_, rfl, 1, rfl, fb, _, _, _, rfl, rfl, hfb2, ixN_last _ _, ?_⟩
                  rw [set_last]
                  refine fin2 (hvs ++ [V.ref tn]) _ (same_updL (sm6.trans (b1.trans b2)) hfb3) upd_same ?_
                  unfold keepOn
                  rw [lastK_snoc]
                  refine PartsAt.app ((hpg2.mono (TK.of (b1.trans b2))).mono (tk_updL hfb2)) (PartsAt.one ⟨tn, rfl, ?_⟩)
                  refine tk_updL hfb2 _ _ ?_
                  rw [upd_same]
                  rfl
                | cut y =>
                  refine iteD w_cut_keep ⟨_, rfl, rfl, _, rfl, iteD' rfl ⟨_, rfl, .inl ⟨rfl, _, SqL.of (b1 _ _ hfb)⟩, _, rfl, (by show 2 ≤ sizeLine; decide), fun tn htn => ?_⟩⟩
                  have b2 := same_new htn (HO.tup [V.str "keep", V.int (mm : Int)])
                  have hfb2 := b2 _ _ (b1 _ _ hfb)
                  refine ⟨fb, _, V.ref tn, rfl, rfl, hfb2, small1000 (by omega), ?_⟩
                  refine fin2 _ _ (same_updL (sm6.trans (b1.trans b2)) hfb3) upd_same ?_
                  unfold keepOn
                  rw [lastK_else (fun _ h => by cases h)]
                  refine PartsAt.app ((hpg.mono (TK.of (b1.trans b2))).mono (tk_updL hfb2)) (PartsAt.one ⟨tn, rfl, ?_⟩)
                  refine tk_updL hfb2 _ _ ?_
                  rw [upd_same]
                  rfl
                | put y =>
                  refine iteD w_put_keep ⟨_, rfl, rfl, _, rfl, iteD' rfl ⟨_, rfl, .inl ⟨rfl, _, SqL.of (b1 _ _ hfb)⟩, _, rfl, (by show 2 ≤ sizeLine; decide), fun tn htn => ?_⟩⟩
                  have b2 := same_new htn (HO.tup [V.str "keep", V.int (mm : Int)])
                  have hfb2 := b2 _ _ (b1 _ _ hfb)
                  refine ⟨fb, _, V.ref tn, rfl, rfl, hfb2, small1000 (by omega), ?_⟩
                  refine fin2 _ _ (same_updL (sm6.trans (b1.trans b2)) hfb3) upd_same ?_
                  unfold keepOn
                  rw [lastK_else (fun _ h => by cases h)]
                  refine PartsAt.app ((hpg.mono (TK.of (b1.trans b2))).mono (tk_updL hfb2)) (PartsAt.one ⟨tn, rfl, ?_⟩)
                  refine tk_updL hfb2 _ _ ?_
                  rw [upd_same]
                  rfl
        · refine iteD hw ⟨_, rfl, _, _, rfl, rfl, _, rfl, iteD' hm ?_⟩
          refine ⟨fun σ' H' => ∃ (fb : Addr) (gvs : List V), σ' = [some (.ref a), some (.ref fb), some (.str (S (Fo rs i).p)), some (.str (S (Fo rs i).c)), some (.str wd), some (.int m)] ∧ Same H3 H' ∧ H3 fb = none ∧ H' fb = some (.lst gvs) ∧ PartsAt H' gvs ((Fo rs i).f ++ flushP (Fo rs i).p (Fo rs i).c), ?_, ?_⟩
          · refine ⟨_, rfl, _, rfl, (by show 2 ≤ sizeLine; decide), fun t1 ht1 => ?_⟩
            have a1 := same_new ht1 (HO.tup [V.str "put", V.str (S (Fo rs i).p)])
            refine ⟨(by show 1 ≤ sizeLine; decide), fun l1 hl1 => ?_⟩
            have a2 := same_new hl1 (HO.lst [V.ref t1])
            refine ⟨_, rfl, rfl, .inr ⟨_, rfl, l1, kz (Fo rs i).p, [V.ref t1], rfl, rfl, upd_same, by omega, by omega, ?_, fun p1 hp1 => ?_⟩⟩
            · exact sz_le (by show 1 * (kz (Fo rs i).p).toNat ≤ 100000; omega)
            have a3 := same_new hp1 (HO.lst (List.replicate (kz (Fo rs i).p).toNat [V.ref t1]).flatten)
            have r1 := rep_len (Fo rs i).p (V.ref t1)
            refine ⟨fa, p1, fvs, _, rfl, rfl, a3 _ _ (a2 _ _ (a1 _ _ hfa)), upd_same, sz_le (by omega), fun q1 hq1 => ?_⟩
            have a4 := same_new hq1 (HO.lst (fvs ++ (List.replicate (kz (Fo rs i).p).toNat [V.ref t1]).flatten))
            refine ⟨_, rfl, (by show 2 ≤ sizeLine; decide), fun t2 ht2 => ?_⟩
            have a5 := same_new ht2 (HO.tup [V.str "cut", V.str (S (Fo rs i).c)])
            refine ⟨(by show 1 ≤ sizeLine; decide), fun l2 hl2 => ?_⟩
            have a6 := same_new hl2 (HO.lst [V.ref t2])
            refine ⟨_, rfl, rfl, .inr ⟨_, rfl, l2, kz (Fo rs i).c, [V.ref t2], rfl, rfl, upd_same, by omega, by omega, ?_, fun p2 hp2 => ?_⟩⟩
            · exact sz_le (by show 1 * (kz (Fo rs i).c).toNat ≤ 100000; omega)
            have a7 := same_new hp2 (HO.lst (List.replicate (kz (Fo rs i).c).toNat [V.ref t2]).flatten)
            have r2 := rep_len (Fo rs i).c (V.ref t2)
            refine ⟨q1, p2, _, _, rfl, rfl, a7 _ _ (a6 _ _ (a5 _ _ upd_same)), upd_same, sz_le (by rw [List.length_append]; omega), fun q2 hq2 => ?_⟩
            have a8 := same_new hq2 (HO.lst (fvs ++ (List.replicate (kz (Fo rs i).p).toNat [V.ref t1]).flatten ++ (List.replicate (kz (Fo rs i).c).toNat [V.ref t2]).flatten))
            have c14 := ((a1.trans a2).trans a3).trans a4
            have c58 := ((a5.trans a6).trans a7).trans a8
            refine ⟨q2, _, rfl, sm.trans (c14.trans c58), (sm.trans (c14.trans ((a5.trans a6).trans a7))).free hq2, upd_same, ?_⟩
            have f1 := hpf.mono (TK.of (c14.trans c58))
            have f2 := rep_parts (H := _) (p := Part.put (Fo rs i).p) (Fo rs i).p ⟨t1, rfl, (((a2.trans a3).trans a4).trans c58) _ _ upd_same⟩
            have f3 := rep_parts (H := _) (p := Part.cut (Fo rs i).c) (Fo rs i).c ⟨t2, rfl, ((a6.trans a7).trans a8) _ _ upd_same⟩
            have f4 := (f1.app f2).app f3
            rw [List.append_assoc (Fo rs i).f] at f4
            exact f4
          · rintro σ' H6 ⟨fb, gvs, rfl, sm6, hfb3, hfb, hpg⟩
            refine ⟨_, rfl, rfl, _, rfl, ?_⟩
            rcases fin with ⟨rfl, hie⟩ | ⟨rfl, mm, rfl, hmm, hc⟩
            · refine iteD w_end_keep ⟨_, rfl, rfl, _, rfl, iteD w_end_keep ?_⟩
              refine ⟨fb, gvs, ⟨neatL rs, [], []⟩, some (.str "end"), some (.int m), ?_, sm6, hfb, ?_, fun z => absurd z (by omega), fun _ => rfl⟩
              · show _ = [some (V.ref a), some (V.ref fb), some (V.str (S [])), some (V.str (S [])), some (V.str "end"), some (V.int m)]
                rw [← em_S]
                rfl
              · show PartsAt H6 gvs (neatL rs)
                rw [neatL_Fo, ← hie]
                exact hpg
            · have fs := Fo_succ hc
              have hlt : i < rs.length := (List.getElem?_eq_some_iff.mp hc).1
              have fs2 : Fo rs (i + 1) = ⟨keepOn ((Fo rs i).f ++ flushP (Fo rs i).p (Fo rs i).c) mm, [], []⟩ := by
                rw [fs]
                exact if_pos hmm
              generalize (Fo rs i).f ++ flushP (Fo rs i).p (Fo rs i).c = F1 at hpg gdF fnl fs2
              have gl := hpg.len
              have fin2 : ∀ (nvs : List V) (H8 : Hp), Same H3 H8 → H8 fb = some (.lst nvs) → PartsAt H8 nvs (keepOn F1 mm) →
                  ∃ (fa : Addr) (fvs : List V) (s : NSt) (v4 v5 : Option V), [some (V.ref a), some (V.ref fb), some (V.str ""), some (V.str ""), some (V.str "keep"), some (V.int (mm : Int))] = [some (.ref a), some (.ref fa), some (.str (S s.p)), some (.str (S s.c)), v4, v5] ∧ Same H3 H8 ∧
                    H8 fa = some (.lst fvs) ∧ PartsAt H8 fvs s.f ∧ (i + 1 ≤ rs.length → s = Fo rs (i + 1)) ∧ (rs.length < i + 1 → s.f = neatL rs) := fun nvs H8 e1 e2 e3 => by
                refine ⟨fb, nvs, Fo rs (i + 1), some (.str "keep"), some (.int (mm : Int)), ?_, e1, e2, ?_, fun _ => rfl, fun z => absurd z (by omega)⟩
                · rw [fs2]
                  show _ = [some (V.ref a), some (V.ref fb), some (V.str (S [])), some (V.str (S [])), some (V.str "keep"), some (V.int (mm : Int))]
                  rw [← em_S]
                · rw [fs2]
                  exact e3
              refine iteD' rfl ⟨_, rfl, (by show 0 ≤ sizeLine; decide), fun z hz => ?_⟩
              have b1 := same_new hz (HO.lst [])
              refine ⟨.list (F1.map dataP), .list [], .lst (SqL.of (b1 _ _ hfb)) (dp_all (hpg.mono (TK.of b1))), .lst (SqL.of upd_same) .nil, dataPs_shaped gdF, dataPs_shaped (cs := []) (fun _ hz => nomatch hz), _, rfl, ?_⟩
              rcases List.eq_nil_or_concat F1 with e0 | ⟨g, b, e0⟩
              · subst e0
                refine iteB eqv_nil ⟨_, rfl, rfl, _, rfl, iteD' rfl ⟨_, rfl, .inl ⟨rfl, _, SqL.of (b1 _ _ hfb)⟩, _, rfl, (by show 2 ≤ sizeLine; decide), fun tn htn => ?_⟩⟩
                have b2 := same_new htn (HO.tup [V.str "keep", V.int (mm : Int)])
                have hfb2 := b2 _ _ (b1 _ _ hfb)
                refine ⟨fb, _, V.ref tn, rfl, rfl, hfb2, small1000 (by omega), ?_⟩
                refine fin2 _ _ (same_updL (sm6.trans (b1.trans b2)) hfb3) upd_same ?_
                unfold keepOn
                rw [show lastK [] = none from rfl]
                refine PartsAt.app ((hpg.mono (TK.of (b1.trans b2))).mono (tk_updL hfb2)) (PartsAt.one ⟨tn, rfl, ?_⟩)
                refine tk_updL hfb2 _ _ ?_
                rw [upd_same]
                rfl
              · rw [List.concat_eq_append] at e0
                subst e0
                obtain ⟨hvs, u, rfl, hpg2, pl, rfl, hpl⟩ := hpg.snoc
                refine iteA (eqv_snoc g b) ⟨_, rfl, 1, rfl, fb, _, _, _, rfl, rfl, SqL.of (b1 _ _ hfb), atI_last _ _, pl, _, 0, _, rfl, rfl, SqT.of (b1 _ _ hpl), rfl, rfl, _, rfl, ?_⟩
                cases b with
                | keep mk =>
                  refine iteD' rfl ⟨_, rfl, 1, rfl, fb, _, _, _, rfl, rfl, SqL.of (b1 _ _ hfb), atI_last _ _, pl, _, 1, _, rfl, rfl, SqT.of (b1 _ _ hpl), rfl, _, rfl, _, _, rfl, rfl, (by show 2 ≤ sizeLine; decide), fun tn htn => ?_⟩
                  have b2 := same_new htn (HO.tup [V.str "keep", V.int ((mk : Int) + (mm : Int))])
                  have hfb2 := b2 _ _ (b1 _ _ hfb)
                  refine ⟨_, rfl, 1, rfl, fb, _, _, _, rfl, rfl, hfb2, ixN_last _ _, ?_⟩
                  rw [set_last]
                  refine fin2 (hvs ++ [V.ref tn]) _ (same_updL (sm6.trans (b1.trans b2)) hfb3) upd_same ?_
                  unfold keepOn
                  rw [lastK_snoc]
                  refine PartsAt.app ((hpg2.mono (TK.of (b1.trans b2))).mono (tk_updL hfb2)) (PartsAt.one ⟨tn, rfl, ?_⟩)
                  refine tk_updL hfb2 _ _ ?_
                  rw [upd_same]
                  rfl
                | cut y =>
                  refine iteD w_cut_keep ⟨_, rfl, rfl, _, rfl, iteD' rfl ⟨_, rfl, .inl ⟨rfl, _, SqL.of (b1 _ _ hfb)⟩, _, rfl, (by show 2 ≤ sizeLine; decide), fun tn htn => ?_⟩⟩
                  have b2 := same_new htn (HO.tup [V.str "keep", V.int (mm : Int)])
                  have hfb2 := b2 _ _ (b1 _ _ hfb)
                  refine ⟨fb, _, V.ref tn, rfl, rfl, hfb2, small1000 (by omega), ?_⟩
                  refine fin2 _ _ (same_updL (sm6.trans (b1.trans b2)) hfb3) upd_same ?_
                  unfold keepOn
                  rw [lastK_else (fun _ h => by cases h)]
                  refine PartsAt.app ((hpg.mono (TK.of (b1.trans b2))).mono (tk_updL hfb2)) (PartsAt.one ⟨tn, rfl, ?_⟩)
                  refine tk_updL hfb2 _ _ ?_
                  rw [upd_same]
                  rfl
                | put y =>
                  refine iteD w_put_keep ⟨_, rfl, rfl, _, rfl, iteD' rfl ⟨_, rfl, .inl ⟨rfl, _, SqL.of (b1 _ _ hfb)⟩, _, rfl, (by show 2 ≤ sizeLine; decide), fun tn htn => ?_⟩⟩
                  have b2 := same_new htn (HO.tup [V.str "keep", V.int (mm : Int)])
                  have hfb2 := b2 _ _ (b1 _ _ hfb)
                  refine ⟨fb, _, V.ref tn, rfl, rfl, hfb2, small1000 (by omega), ?_⟩
                  refine fin2 _ _ (same_updL (sm6.trans (b1.trans b2)) hfb3) upd_same ?_
                  unfold keepOn
                  rw [lastK_else (fun _ h => by cases h)]
                  refine PartsAt.app ((hpg.mono (TK.of (b1.trans b2))).mono (tk_updL hfb2)) (PartsAt.one ⟨tn, rfl, ?_⟩)
                  refine tk_updL hfb2 _ _ ?_
                  rw [upd_same]
                  rfl
      · have fs := Fo_succ hc
        have hlt : i < rs.length := (List.getElem?_eq_some_iff.mp hc).1
        refine iteD w_keep_put ⟨_, rfl, rfl, _, rfl, iteD w_keep_cut ⟨_, rfl, rfl, _, rfl, iteD w_keep_end ⟨_, rfl, _, _, rfl, rfl, _, rfl, iteD (by decide) ?_⟩⟩⟩
        exact ⟨fa, fvs, Fo rs (i + 1), some (.str "keep"), some (.int 0), by rw [fs]; rfl, sm, hfa, by rw [fs]; exact hpf, fun _ => rfl, fun z => absurd z (by omega)⟩
    · rintro σ H4 ⟨fa, fvs, ss, v4, v5, rfl, sm, hfa, hpf, _, hE⟩
      rw [hE (by rw [List.length_append, List.length_singleton, hvl]; omega)] at hpf
      exact ⟨_, rfl, q H4 fa (sAll.trans sm) ⟨fvs, hfa, hpf⟩⟩
end
end Ink
end
section
namespace Ink
open PySem PySem.Spec PyProof.Rows L2 SX

/-! ### one part more -/
theorem over_one (rs : List Part) (p : Part) : over (rs ++ [p]) = over rs + over1 p := by
  rw [over_app]
  show _ + (over1 p + 0) = _
  omega
theorem puts_one (rs : List Part) (p : Part) : puts (rs ++ [p]) = puts rs + puts1 p := by
  rw [puts_app]
  show _ + (puts1 p + 0) = _
  omega
theorem fits_one {rs : List Part} {p : Part} {T : List Nat} (h : fits rs (T.take (over rs))) (hl : over rs + over1 p ≤ T.length) (hp : fits [p] ((T.drop (over rs)).take (over1 p))) : fits (rs ++ [p]) (T.take (over (rs ++ [p]))) := by
  rw [over_one, fits_app]
  refine ⟨?_, ?_, ?_⟩
  · rw [List.length_take]
    omega
  · rw [List.take_take, Nat.min_eq_left (Nat.le_add_right _ _)]
    exact h
  · rw [List.drop_take, Nat.add_sub_cancel_left]
    exact hp
theorem raw_one {rs : List Part} {p : Part} (h : ∀ r ∈ rs, rawOk r) (hp : rawOk p) : ∀ r ∈ rs ++ [p], rawOk r := fun r hr => by
  rcases List.mem_append.mp hr with e | e
  · exact h r e
  · rw [List.mem_singleton.mp e]
    exact hp
theorem sml_of {cs : List Part} {l : List Nat} (h : fits cs l) (hn : cs.length ≤ 1000) (hl : l.length ≤ 50000) (hp : puts cs ≤ 50000) : Sml cs := by
  refine ⟨hn, fun p hm => ?_⟩
  have ho := fits_over h
  obtain ⟨i, hi, e⟩ := List.getElem_of_mem hm
  have e' : cs[i]? = some p := by rw [List.getElem?_eq_getElem hi, e]
  have a1 := over_snoc e'
  have a2 := puts_snoc e'
  have b1 := over_le cs (i + 1)
  have b2 := puts_le cs (i + 1)
  cases p with
  | keep n => exact trivial
  | cut x =>
    have a1' : over (cs.take (i + 1)) = over (cs.take i) + x.length := a1
    show x.length ≤ 100000
    omega
  | put x =>
    have a2' : puts (cs.take (i + 1)) = puts (cs.take i) + x.length := a2
    show x.length ≤ 100000
    omega

section
variable {P : Program} {w : World} {K : PySem.W.Frag} {mg : Str → Option Value} {base : Heap} {k : Nat} {CP CS : Addr}

/-! ### _law_change_by -/
def spChangeBy : Sp := fun vs H Q _ => ∃ (c : Int) (T : List Nat), vs = [.int c, .str (S T)] ∧ OkT T ∧ T.length ≤ 10000 ∧
  ∀ H' b cs, Same H H' → ChAt H' b cs → Neat cs → Sml cs → fits cs T → cs.length ≤ 16 → puts cs ≤ 75 → Q (.ref b) H'
theorem scChangeBy : FnScope ["_law_cell", "_law_text", "_law_parts", "_law_at", "_law_k", "_law_number", "_law_size"] ["_law_cell", "_law_text"] (C8.fnScope (top 49)) := ⟨rfl, rfl, rfl, by decide +kernel, rfl, by decide +kernel, by decide +kernel⟩
theorem ok_changeBy (D : Df K mg "_law_change_by" "_law_change_by" (top 49) ["_law_cell", "_law_text"]) (B : Bt mg) (Gm : C8.Cal P w K mg base 1 "_law_mixed" spMixed []) (Gt : C8.Cal P w K mg base 2 "_law_text_by" spTextBy []) (Gn : C8.Cal P w K mg base 1 "_law_neat" spNeat []) : C8.Cal P w K mg base 3 "_law_change_by" spChangeBy [] := by
  refine D.cal scChangeBy (fun vs H Q E h => ?_) (fun f cdv A outer s H vs Q E hr h => ?_)
  · obtain ⟨_, _, rfl, _⟩ := h
    rfl
  · obtain ⟨c, T, rfl, ok, hT, q⟩ := h
    refine ⟨_, pss_cons (ps_set (i := 2) scChangeBy.nd rfl (Or.inl rfl) (pe_lst pa_nil))
      (pss_cons (ps_set (i := 3) scChangeBy.nd rfl (Or.inl rfl) pe_int)
      (pss_cons (ps_for PassesOwn.never rfl (pi_range1 (by rfl) B.range (pa_cons (pe_op op_add pe_int (pe_op op_mod (pv 0) pe_int)) pa_nil)) (pg_name (i := 4) scChangeBy.nd rfl (Or.inl rfl))
        (pss_cons (ps_set (i := 5) scChangeBy.nd rfl (Or.inl rfl) (C8.pe_c Gm hr (by decide) (by rfl) (pa_cons (pv 0) (pa_cons (pe_op op_add pe_int (pv 4)) pa_nil))))
        (C8.pss_cut (ps_if (pt_cmpR op_eq (pe_op op_mod (pv 5) pe_int) pe_int (nomark _))
            (pss_one (ps_expr (pe_bm PySem.F.plainAttrs_list PySem.F.slot_list_append PySem.F.type_list_append mt_append (pv 2) (pa_cons (pe_tup (pa_cons pe_str (pa_cons (C8.pe_c Gt hr (by decide) (by rfl) (pa_cons (pv 5)
              (pa_cons (pe_op op_add pe_int (pe_op op_mul (pe_op op_mod (pe_op op_fdiv (pv 5) pe_int) pe_int) (pe_op op_add pe_int (pe_op op_mod (pe_op op_fdiv (pv 5) pe_int) pe_int)))) pa_nil))) pa_nil))) pa_nil)))) pss_nil)
        (pss_cons (ps_set (i := 6) scChangeBy.nd rfl (Or.inl rfl) (pe_callB (call_min2 rfl) (by rfl) B.min boot_min (pa_cons (pe_op op_sub (pe_callB call_len_str (by rfl) B.len PySem.boot_len (pa_cons (pv 1) pa_nil)) (pv 3))
            (pa_cons (pe_op op_mod (pe_op op_fdiv (pv 5) pe_int) (pe_op op_add pe_int (pe_op op_fdiv (pe_callB call_len_str (by rfl) B.len PySem.boot_len (pa_cons (pv 1) pa_nil)) pe_int))) pa_nil))))
        (C8.pss_cut (ps_if (PW.pt (pw_and (pt_cmpR op_eq (pe_op op_mod (pe_op op_fdiv (pv 5) pe_int) pe_int) pe_int (nomark _)) (pw_and1 (pt_cmpR op_gt (pv 6) pe_int (nomark _)))))
            (pss_one (ps_expr (pe_bm PySem.F.plainAttrs_list PySem.F.slot_list_append PySem.F.type_list_append mt_append (pv 2) (pa_cons (pe_tup (pa_cons pe_str (pa_cons (pe_slice sl_str (pv 1) (po_some (pv 3)) (po_some (pe_op op_add (pv 3) (pv 6)))) pa_nil))) pa_nil))))
            (pss_one (ps_expr (pe_bm PySem.F.plainAttrs_list PySem.F.slot_list_append PySem.F.type_list_append mt_append (pv 2) (pa_cons (pe_tup (pa_cons pe_str (pa_cons (pv 6) pa_nil))) pa_nil)))))
        (pss_one (ps_set (i := 3) scChangeBy.nd rfl (Or.inl rfl) (pe_op op_add (pv 3) (pv 6)))))))))
      (pss_cons (ps_expr (pe_bm PySem.F.plainAttrs_list PySem.F.slot_list_append PySem.F.type_list_append mt_append (pv 2) (pa_cons (pe_tup (pa_cons pe_str (pa_cons (pe_op op_sub (pe_callB call_len_str (by rfl) B.len PySem.boot_len (pa_cons (pv 1) pa_nil)) (pv 3)) pa_nil))) pa_nil)))
      (C8.pss_cut (ps_if (pt_cmpR op_eq (pe_op op_mod (pe_op op_fdiv (pv 0) pe_int) pe_int) pe_int (nomark _))
          (pss_one (ps_expr (pe_bm PySem.F.plainAttrs_list PySem.F.slot_list_append PySem.F.type_list_append mt_append (pv 2) (pa_cons (pe_tup (pa_cons pe_str (pa_cons (C8.pe_c Gt hr (by decide) (by rfl) (pa_cons (pv 0)
            (pa_cons (pe_op op_add pe_int (pe_op op_mod (pe_op op_fdiv (pv 0) pe_int) pe_int)) pa_nil))) pa_nil))) pa_nil)))) pss_nil)
      (pss_one (ps_ret (C8.pe_c Gn hr (by decide) (by rfl) (pa_cons (pv 2) pa_nil)))))))), ?_⟩
    refine ⟨(by show 0 ≤ sizeLine; decide), fun pa hpa => ?_⟩
    have hTs : (S T).length ≤ sizeLine := S_le (by omega)
    have hTl : (((S T).length : Nat) : Int) = (T.length : Int) := by rw [S_len]
    have m7 : 0 ≤ c % 7 ∧ c % 7 < 7 := ⟨Int.emod_nonneg _ (by decide), Int.emod_lt_of_pos _ (by decide)⟩
    refine ⟨_, rfl, _, _, rfl, rfl, (by show (0 : Int) < 7; decide), _, _, rfl, rfl, _, rfl, by omega, by omega, for_it walk_range (fun i σ H' => ∃ (rs : List Part) (rvs : List V) (v4 v5 v6 : Option V), σ = [some (.int c), some (.str (S T)), some (.ref pa), some (.int (over rs : Int)), v4, v5, v6] ∧ Same H H' ∧ H' pa = some (.lst rvs) ∧ PartsAt H' rvs rs ∧
        (∀ r ∈ rs, rawOk r) ∧ over rs ≤ T.length ∧ fits rs (T.take (over rs)) ∧ rs.length ≤ 2 * i ∧ puts rs ≤ 10 * i) ?_ (fun _ _ _ _ _ => trivial) ?_ ?_⟩
    · exact ⟨[], [], none, none, none, rfl, same_new hpa _, upd_same, PartsAt.nil, fun _ z => (nomatch z), Nat.zero_le _, rfl, Nat.zero_le _, Nat.zero_le _⟩
    · rintro i x σ H1 H2 hi ⟨rs, rvs, v4, v5, v6, rfl, sm, hp, hps, hraw, hov, hfit, hlen, hpu⟩ ⟨rfl, rfl⟩
      have hi7 : i < 7 := by omega
      have rvl := hps.len
      refine ⟨_, rfl, _, rfl, _, _, rfl, rfl, _, _, rfl, fun n n0 n1 => ?_⟩
      -- the put
      refine ⟨fun σ' H' => ∃ (rs2 : List Part) (rvs2 : List V), σ' = [some (.int c), some (.str (S T)), some (.ref pa), some (.int (over rs : Int)), some (.int (0 + (i : Int))), some (.int n), v6] ∧ Same H H' ∧ H' pa = some (.lst rvs2) ∧ PartsAt H' rvs2 rs2 ∧
        (∀ r ∈ rs2, rawOk r) ∧ over rs2 = over rs ∧ fits rs2 (T.take (over rs)) ∧ rs2.length ≤ 2 * i + 1 ∧ puts rs2 ≤ 10 * i + 10, ?_, ?_⟩
      · refine ⟨_, rfl, _, _, rfl, rfl, (by show (0 : Int) < 3; decide), rfl, _, rfl, ite2 (fun _ => ?_) (fun _ => ?_)⟩
        · have q4 : 0 ≤ n / 3 % 4 ∧ n / 3 % 4 < 4 := ⟨Int.emod_nonneg _ (by decide), Int.emod_lt_of_pos _ (by decide)⟩
          have q3 : 0 ≤ n / 12 % 3 ∧ n / 12 % 3 < 3 := ⟨Int.emod_nonneg _ (by decide), Int.emod_lt_of_pos _ (by decide)⟩
          have pr : 0 ≤ n / 3 % 4 * (1 + n / 12 % 3) ∧ n / 3 % 4 * (1 + n / 12 % 3) ≤ 9 := by
            generalize n / 3 % 4 = u at q4 ⊢
            generalize n / 12 % 3 = v at q3 ⊢
            refine ⟨Int.mul_nonneg q4.1 (by omega), ?_⟩
            have h1 : u * (1 + v) ≤ 3 * (1 + v) := Int.mul_le_mul_of_nonneg_right (by omega) (by omega)
            omega
          refine ⟨_, rfl, .inl ⟨rfl, _, SqL.of hp⟩, _, rfl, _, rfl, _, _, rfl, rfl, ⟨by decide, by decide⟩, _, _, rfl, rfl, (by show (0 : Int) < 4; decide), _, rfl, _, _, rfl, rfl, ⟨by decide, by decide⟩, _, _, rfl, rfl, (by show (0 : Int) < 3; decide), _, _, rfl, rfl, _, _, rfl, rfl, .inl ⟨by omega, by omega⟩, _, _, rfl, rfl,
            n, _, (1 + n / 3 % 4 * (1 + n / 12 % 3)).toNat, rfl, by omega, by omega, fun H3 y s3 oy ly => ?_⟩
          refine ⟨(by show 2 ≤ sizeLine; decide), fun t ht => ?_⟩
          have s4 := same_new ht (HO.tup [V.str "put", V.str (S y)])
          have hp4 := s4 _ _ (s3 _ _ hp)
          refine ⟨pa, _, V.ref t, rfl, rfl, hp4, small1000 (by omega), rs ++ [.put y], rvs ++ [V.ref t], rfl, same_updL (sm.trans (s3.trans s4)) hpa, upd_same, ?_, raw_one (p := .put y) hraw oy, ?_, ?_, ?_, ?_⟩
          · exact PartsAt.app ((hps.mono (TK.of (s3.trans s4))).mono (tk_updL hp4)) (PartsAt.one ⟨t, rfl, tk_updL hp4 _ _ upd_same⟩)
          · rw [over_one]
            rfl
          · have := fits_one (p := .put y) hfit (by show over rs + 0 ≤ T.length; omega) ⟨oy, by show List.take 0 _ = []; rw [List.take_zero]⟩
            rw [over_one] at this
            exact this
          · rw [List.length_append, List.length_singleton]
            omega
          · rw [puts_one]
            show puts rs + y.length ≤ _
            omega
        · exact ⟨rs, rvs, rfl, sm, hp, hps, hraw, rfl, hfit, by omega, by omega⟩
      · rintro σ' H3 ⟨rs2, rvs2, rfl, sm3, hp3, hps3, hraw3, hov3, hfit3, hlen3, hpu3⟩
        have rvl3 := hps3.len
        refine ⟨_, rfl, _, rfl, hTs, _, rfl, _, _, rfl, rfl, _, rfl, _, _, rfl, rfl, ⟨by decide, by decide⟩, _, rfl, _, rfl, hTs, _, _, rfl, rfl, ⟨by decide, by decide⟩, _, _, rfl, rfl, _, _, rfl, rfl, ?_, _, _, rfl, ?_⟩
        · show 0 < 2 + (((S T).length : Nat) : Int) / 3
          omega
        rw [hTl]
        have zr : 0 ≤ (if n / 36 % (2 + (T.length : Int) / 3) < (T.length : Int) - (over rs : Int) then n / 36 % (2 + (T.length : Int) / 3) else (T.length : Int) - (over rs : Int)) ∧
            (if n / 36 % (2 + (T.length : Int) / 3) < (T.length : Int) - (over rs : Int) then n / 36 % (2 + (T.length : Int) / 3) else (T.length : Int) - (over rs : Int)) ≤ (T.length : Int) - (over rs : Int) := by
          have q1 : 0 ≤ n / 36 % (2 + (T.length : Int) / 3) := Int.emod_nonneg _ (by omega)
          by_cases qq : n / 36 % (2 + (T.length : Int) / 3) < (T.length : Int) - (over rs : Int)
          · rw [if_pos qq]
            exact ⟨q1, by omega⟩
          · rw [if_neg qq]
            omega
        generalize (if n / 36 % (2 + (T.length : Int) / 3) < (T.length : Int) - (over rs : Int) then n / 36 % (2 + (T.length : Int) / 3) else (T.length : Int) - (over rs : Int)) = z at zr ⊢
        obtain ⟨d, rfl⟩ : ∃ d : Nat, z = (d : Int) := ⟨z.toNat, by omega⟩
        have hd : over rs + d ≤ T.length := by omega
        -- the cut or the keep
        refine ⟨fun σ' H' => ∃ (rs4 : List Part) (rvs4 : List V), σ' = [some (.int c), some (.str (S T)), some (.ref pa), some (.int (over rs : Int)), some (.int (0 + (i : Int))), some (.int n), some (.int (d : Int))] ∧ Same H H' ∧ H' pa = some (.lst rvs4) ∧ PartsAt H' rvs4 rs4 ∧
          (∀ r ∈ rs4, rawOk r) ∧ over rs4 = over rs + d ∧ fits rs4 (T.take (over rs4)) ∧ rs4.length ≤ 2 * i + 2 ∧ puts rs4 ≤ 10 * i + 10, ?_, ?_⟩
        · have cutw : ∀ (p : Part), over1 p = d → puts1 p = 0 → rawOk p → fits [p] ((T.drop (over rs2)).take (over1 p)) → ∀ (t : Addr), H3 t = none →
              ∃ (rs4 : List Part) (rvs4 : List V), [some (V.int c), some (V.str (S T)), some (V.ref pa), some (V.int (over rs : Int)), some (V.int (0 + (i : Int))), some (V.int n), some (V.int (d : Int))] = [some (V.int c), some (.str (S T)), some (.ref pa), some (.int (over rs : Int)), some (.int (0 + (i : Int))), some (.int n), some (.int (d : Int))] ∧ Same H (upd (upd H3 t (.tup [.str (wordOf p), thingOf p])) pa (.lst (rvs2 ++ [.ref t]))) ∧
                (upd (upd H3 t (.tup [.str (wordOf p), thingOf p])) pa (.lst (rvs2 ++ [.ref t]))) pa = some (.lst rvs4) ∧ PartsAt (upd (upd H3 t (.tup [.str (wordOf p), thingOf p])) pa (.lst (rvs2 ++ [.ref t]))) rvs4 rs4 ∧
                (∀ r ∈ rs4, rawOk r) ∧ over rs4 = over rs + d ∧ fits rs4 (T.take (over rs4)) ∧ rs4.length ≤ 2 * i + 2 ∧ puts rs4 ≤ 10 * i + 10 := fun p h1 h2 h3 h4 t ht => by
            have s4 := same_new ht (HO.tup [V.str (wordOf p), thingOf p])
            have hp4 := s4 _ _ hp3
            refine ⟨rs2 ++ [p], rvs2 ++ [V.ref t], rfl, same_updL (sm3.trans s4) hpa, upd_same, ?_, raw_one hraw3 h3, by rw [over_one]; omega, ?_, ?_, ?_⟩
            · exact PartsAt.app ((hps3.mono (TK.of s4)).mono (tk_updL hp4)) (PartsAt.one ⟨t, rfl, tk_updL hp4 _ _ upd_same⟩)
            · rw [← hov3] at hfit3
              exact fits_one hfit3 (by omega) h4
            · rw [List.length_append, List.length_singleton]
              omega
            · rw [puts_one]
              omega
          have hp3' := hp3
          have keepw : ∀ t, H3 t = none → _ := cutw (.keep d) rfl rfl trivial ⟨by rw [List.length_take, List.length_drop]; show d ≤ min d _; omega, by show List.drop d (List.take d _) = []; exact List.drop_eq_nil_of_le (by rw [List.length_take]; omega)⟩
          have hmk := fun (t : Addr) (ht : H3 t = none) => (same_new ht (HO.tup [V.str "keep", V.int (d : Int)])) _ _ hp3
          refine ⟨_, rfl, _, _, rfl, rfl, ⟨by decide, by decide⟩, _, _, rfl, rfl, (by show (0 : Int) < 3; decide), rfl, _, rfl, ite2 (fun _ => ?_) (fun _ => ?_)⟩
          · refine ⟨_, rfl, _, _, rfl, rfl, _, rfl, ite2 (fun _ => ?_) (fun _ => ?_)⟩
            · refine ⟨_, rfl, .inl ⟨rfl, _, SqL.of hp3⟩, _, rfl, _, rfl, _, rfl, _, rfl, _, rfl, _, _, rfl, rfl, _, rfl, _, rfl, hTs, ?_⟩
              rw [cut_S (by omega) (by omega)]
              refine ⟨(by show 2 ≤ sizeLine; decide), fun t ht => ?_⟩
              have ey : sub (over rs : Int) ((over rs : Int) + (d : Int)) T = (T.drop (over rs)).take d := by
                unfold sub
                rw [show ((over rs : Int) + (d : Int) - (over rs : Int)).toNat = d by omega, show ((over rs : Nat) : Int).toNat = over rs by omega]
              rw [ey]
              have hp4 := (same_new ht (HO.tup [V.str "cut", V.str (S ((T.drop (over rs)).take d))])) _ _ hp3
              refine ⟨pa, _, V.ref t, rfl, rfl, hp4, small1000 (by omega), ?_⟩
              have yl : ((T.drop (over rs)).take d).length = d := by
                rw [List.length_take, List.length_drop]
                omega
              refine cutw (.cut ((T.drop (over rs)).take d)) yl rfl (okt_take d (okt_drop _ ok)) ⟨?_, ?_⟩ t ht
              · show List.take ((T.drop (over rs)).take d).length (List.take ((T.drop (over rs)).take d).length (List.drop (over rs2) T)) = _
                rw [yl, hov3, List.take_take, Nat.min_self]
              · show List.drop ((T.drop (over rs)).take d).length (List.take ((T.drop (over rs)).take d).length (List.drop (over rs2) T)) = []
                exact List.drop_eq_nil_of_le (by rw [List.length_take]; omega)
            · refine ⟨_, rfl, .inl ⟨rfl, _, SqL.of hp3⟩, _, rfl, (by show 2 ≤ sizeLine; decide), fun t ht => ⟨pa, _, V.ref t, rfl, rfl, hmk t ht, small1000 (by omega), keepw t ht⟩⟩
          · refine ⟨_, rfl, .inl ⟨rfl, _, SqL.of hp3⟩, _, rfl, (by show 2 ≤ sizeLine; decide), fun t ht => ⟨pa, _, V.ref t, rfl, rfl, hmk t ht, small1000 (by omega), keepw t ht⟩⟩
        · rintro σ' H4 ⟨rs4, rvs4, rfl, sm4, hp4, hps4, hraw4, hov4, hfit4, hlen4, hpu4⟩
          refine ⟨_, rfl, _, rfl, _, _, rfl, rfl, rs4, rvs4, some (.int (0 + (i : Int))), some (.int n), some (.int (d : Int)), ?_, sm4, hp4, hps4, hraw4, by omega, hfit4, by omega, by omega⟩
          rw [hov4]
          rfl
    · rintro σ H1 ⟨rs, rvs, v4, v5, v6, rfl, sm, hp, hps, hraw, hov, hfit, hlen, hpu⟩
      have rvl := hps.len
      have hl14 : rs.length ≤ 14 := by omega
      have hp70 : puts rs ≤ 70 := by omega
      refine ⟨_, rfl, .inl ⟨rfl, _, SqL.of hp⟩, _, rfl, _, rfl, hTs, _, rfl, _, _, rfl, rfl, (by show 2 ≤ sizeLine; decide), fun t ht => ?_⟩
      have s2 := same_new ht (HO.tup [V.str "keep", V.int ((((S T).length : Nat) : Int) - (over rs : Int))])
      have hp2 := s2 _ _ hp
      refine ⟨pa, _, V.ref t, rfl, rfl, hp2, small1000 (by omega), ?_⟩
      have hk : (((S T).length : Nat) : Int) - (over rs : Int) = ((T.length - over rs : Nat) : Int) := by
        rw [S_len]
        omega
      have f1 := fits_one (p := .keep (T.length - over rs)) hfit (by show over rs + (T.length - over rs) ≤ T.length; omega) ⟨by rw [List.length_take, List.length_drop]; show T.length - over rs ≤ min (T.length - over rs) _; omega, by show List.drop (T.length - over rs) (List.take (T.length - over rs) _) = []; exact List.drop_eq_nil_of_le (by rw [List.length_take]; omega)⟩
      have o1 : over (rs ++ [.keep (T.length - over rs)]) = T.length := by
        rw [over_one]
        show over rs + (T.length - over rs) = T.length
        omega
      rw [o1, List.take_length] at f1
      have h1 : PartsAt (upd (upd H1 t (.tup [V.str "keep", V.int ((((S T).length : Nat) : Int) - (over rs : Int))])) pa (.lst (rvs ++ [V.ref t]))) (rvs ++ [V.ref t]) (rs ++ [.keep (T.length - over rs)]) := by
        refine PartsAt.app ((hps.mono (TK.of s2)).mono (tk_updL hp2)) (PartsAt.one ⟨t, rfl, tk_updL hp2 _ _ ?_⟩)
        rw [upd_same, hk]
        rfl
      have sm2 : Same H (upd (upd H1 t (.tup [V.str "keep", V.int ((((S T).length : Nat) : Int) - (over rs : Int))])) pa (.lst (rvs ++ [V.ref t]))) := same_updL (sm.trans s2) hpa
      have hpx : (upd (upd H1 t (.tup [V.str "keep", V.int ((((S T).length : Nat) : Int) - (over rs : Int))])) pa (.lst (rvs ++ [V.ref t]))) pa = some (.lst (rvs ++ [V.ref t])) := upd_same
      generalize hH2 : upd (upd H1 t (.tup [V.str "keep", V.int ((((S T).length : Nat) : Int) - (over rs : Int))])) pa (.lst (rvs ++ [V.ref t])) = H2 at h1 sm2 hpx
      have hrawk : ∀ r ∈ rs ++ [Part.keep (T.length - over rs)], rawOk r := raw_one hraw trivial
      have pk : puts (rs ++ [Part.keep (T.length - over rs)]) ≤ 70 := by
        rw [puts_one]
        show puts rs + 0 ≤ 70
        omega
      have lk : (rs ++ [Part.keep (T.length - over rs)]).length ≤ 15 := by
        rw [List.length_append, List.length_singleton]
        omega
      generalize rs ++ [Part.keep (T.length - over rs)] = rsk at f1 h1 hrawk pk lk o1
      have rvlk := h1.len
      refine ⟨fun σ' H' => ∃ (rs4 : List Part) (rvs4 : List V), σ' = [some (.int c), some (.str (S T)), some (.ref pa), some (.int (over rs : Int)), v4, v5, v6] ∧ Same H H' ∧ H' pa = some (.lst rvs4) ∧ PartsAt H' rvs4 rs4 ∧
          (∀ r ∈ rs4, rawOk r) ∧ fits rs4 T ∧ rs4.length ≤ 16 ∧ puts rs4 ≤ 75, ?_, ?_⟩
      · refine ⟨_, rfl, _, _, rfl, rfl, ⟨by decide, by decide⟩, _, _, rfl, rfl, (by show (0 : Int) < 3; decide), rfl, _, rfl, ite2 (fun _ => ?_) (fun _ => ?_)⟩
        · have q5 : 0 ≤ c / 21 % 5 ∧ c / 21 % 5 < 5 := ⟨Int.emod_nonneg _ (by decide), Int.emod_lt_of_pos _ (by decide)⟩
          refine ⟨_, rfl, .inl ⟨rfl, _, SqL.of hpx⟩, _, rfl, _, rfl, _, _, rfl, rfl, ⟨by decide, by decide⟩, _, _, rfl, rfl, (by show (0 : Int) < 5; decide), _, _, rfl, rfl, c, _, (1 + c / 21 % 5).toNat, rfl, by omega, by omega, fun H3 y s3 oy ly => ?_⟩
          refine ⟨(by show 2 ≤ sizeLine; decide), fun t2 ht2 => ?_⟩
          have s4 := same_new ht2 (HO.tup [V.str "put", V.str (S y)])
          have hp4 := s4 _ _ (s3 _ _ hpx)
          refine ⟨pa, _, V.ref t2, rfl, rfl, hp4, small1000 (by omega), rsk ++ [.put y], _, rfl, same_updL (sm2.trans (s3.trans s4)) hpa, upd_same, ?_, raw_one (p := .put y) hrawk oy, ?_, ?_, ?_⟩
          · exact PartsAt.app ((h1.mono (TK.of (s3.trans s4))).mono (tk_updL hp4)) (PartsAt.one ⟨t2, rfl, tk_updL hp4 _ _ upd_same⟩)
          · rw [fits_app, o1, List.take_length, List.drop_length]
            exact ⟨Nat.le_refl _, f1, oy, rfl⟩
          · rw [List.length_append, List.length_singleton]
            omega
          · rw [puts_one]
            show puts rsk + y.length ≤ 75
            omega
        · exact ⟨rsk, _, rfl, sm2, hpx, h1, hrawk, f1, by omega, by omega⟩
      · rintro σ' H4 ⟨rs4, rvs4, rfl, sm4, hp4, hps4, hraw4, hfit4, hlen4, hpu4⟩
        have ho4 := fits_over hfit4
        refine ⟨_, rfl, pa, rs4, rfl, ⟨rvs4, hp4, hps4⟩, hraw4, by omega, by omega, by omega, fun H5 b s5 ch => ?_⟩
        have nf := neatL_fits hfit4
        have nl := neatL_len rs4
        have np := neatL_puts rs4
        exact q H5 b (neatL rs4) (sm4.trans s5) ch (neatL_neat hraw4) (sml_of nf (by omega) (by omega) (by omega)) nf (by omega) (by omega)

/-! ### _law_done -/
def spDone : Sp := fun vs H Q _ => ∃ (T : List Nat) (a : Addr) (cs : List Part), vs = [.str (S T), .ref a] ∧ ChAt H a cs ∧ Sml cs ∧ fits cs T ∧ T.length ≤ 10000 ∧ puts cs ≤ 10000 ∧ Q (.str (S (res cs T))) H
theorem scDone : FnScope ["_law_text", "_law_change", "_law_found", "_law_at", "_law_word", "_law_thing"] ["_law_text", "_law_change"] (C8.fnScope (top 50)) := ⟨rfl, rfl, rfl, by decide +kernel, rfl, by decide +kernel, by decide +kernel⟩
theorem ok_done (D : Df K mg "_law_done" "_law_done" (top 50) ["_law_text", "_law_change"]) (B : Bt mg) : C8.Cal P w K mg base (k + 1) "_law_done" spDone [] := by
  refine D.cal scDone (fun vs H Q E h => ?_) (fun f cdv A outer s H vs Q E hr h => ?_)
  · obtain ⟨_, _, _, rfl, _⟩ := h
    rfl
  · obtain ⟨T, a, cs, rfl, ⟨vs, ha, hps⟩, sm, ft, hT, hpu, q⟩ := h
    refine ⟨_, pss_cons (ps_set (i := 2) scDone.nd rfl (Or.inl rfl) pe_str)
      (pss_cons (ps_set (i := 3) scDone.nd rfl (Or.inl rfl) pe_int)
      (pss_cons (ps_for PassesOwn.never rfl (pi_list (pv 1)) (pg_tup rfl (pgs_cons (pg_name (i := 4) scDone.nd rfl (Or.inl rfl)) (pgs_cons (pg_name (i := 5) scDone.nd rfl (Or.inl rfl)) pgs_nil)))
        (pss_one (ps_if (pt_cmpR op_eq (pv 4) pe_str (nomark _)) (pss_one (ps_set (i := 2) scDone.nd rfl (Or.inl rfl) (pe_op op_add_str (pv 2) (pv 5))))
          (pss_one (ps_if (pt_cmpR op_eq (pv 4) pe_str (nomark _))
            (pss_cons (ps_set (i := 2) scDone.nd rfl (Or.inl rfl) (pe_op op_add_str (pv 2) (pe_slice sl_str (pv 0) (po_some (pv 3)) (po_some (pe_op op_add (pv 3) (pv 5))))))
            (pss_one (ps_set (i := 3) scDone.nd rfl (Or.inl rfl) (pe_op op_add (pv 3) (pv 5)))))
            (pss_one (ps_set (i := 3) scDone.nd rfl (Or.inl rfl) (pe_op op_add (pv 3) (pe_callB call_len_str (by rfl) B.len PySem.boot_len (pa_cons (pv 5) pa_nil))))))))))
      (pss_one (ps_ret (pv 2))))), ?_⟩
    have hvl := hps.len
    have rl := res_len ft
    refine ⟨_, rfl, a, rfl, ⟨_, SqL.of ha⟩, for_it (walk_list (K := K) (a := a) (xs := vs)) (fun i σ H' => ∃ (l : List Nat) (v4 v5 : Option V), σ = [some (.str (S T)), some (.ref a), some (.str (S l)), some (.int (over (cs.take i) : Int)), v4, v5] ∧ H' = H ∧ l ++ res (cs.drop i) (T.drop (over (cs.take i))) = res cs T) ?_ (fun i σ H' hi h => ?_) ?_ ?_⟩
    · refine ⟨[], none, none, ?_, rfl, rfl⟩
      show _ = [some (V.str (S T)), some (V.ref a), some (V.str (S [])), some (V.int ((over (cs.take 0) : Nat) : Int)), none, none]
      rw [← em_S]
      rfl
    · obtain ⟨_, _, _, _, rfl, _⟩ := h
      exact SqL.of ha
    · rintro i x σ H1 H2 hi ⟨l, v4, v5, rfl, rfl, er⟩ ⟨rfl, hx⟩
      obtain ⟨c, hcs, pc, rfl, hpt⟩ := hps.get hx
      have hm := List.mem_of_getElem? hcs
      have hilt : i < cs.length := (List.getElem?_eq_some_iff.mp hcs).1
      have dr : cs.drop i = c :: cs.drop (i + 1) := by
        rw [List.drop_eq_getElem_cons hilt, (List.getElem?_eq_some_iff.mp hcs).2]
      have os := over_snoc hcs
      have hT1 : (S T).length ≤ sizeLine := S_le (by omega)
      rw [dr] at er
      have ll : l.length ≤ 20000 := by
        have e1 : (l ++ res (c :: cs.drop (i + 1)) (T.drop (over (cs.take i)))).length = (res cs T).length := by rw [er]
        rw [List.length_append] at e1
        omega
      refine ⟨pc, _, rfl, SqT.of hpt, rfl, _, _, rfl, _, _, rfl, rfl, ?_⟩
      refine ⟨_, rfl, rfl, _, rfl, ?_⟩
      cases c with
      | put y =>
        have sy : y.length ≤ 100000 := sm.all _ hm
        have er2 : l ++ (y ++ res (cs.drop (i + 1)) (T.drop (over (cs.take i)))) = res cs T := er
        refine iteD' rfl ⟨_, rfl, _, rfl, _, _, rfl, rfl, ?_, ?_⟩
        · rw [S_len, S_len]
          exact Nat.le_trans (show l.length + y.length ≤ 120000 by omega) (by decide)
        · rw [S_cat]
          refine ⟨l ++ y, some (.str "put"), some (.str (S y)), ?_, rfl, ?_⟩
          · rw [os]
            rfl
          · rw [os, List.append_assoc]
            exact er2
      | keep n =>
        have er2 : l ++ ((T.drop (over (cs.take i))).take n ++ res (cs.drop (i + 1)) ((T.drop (over (cs.take i))).drop n)) = res cs T := er
        refine iteD w_keep_put ⟨_, rfl, rfl, _, rfl, iteD' rfl ⟨_, rfl, _, rfl, _, rfl, _, rfl, _, rfl, _, rfl, _, _, rfl, rfl, _, rfl, _, rfl, hT1, ?_⟩⟩
        rw [cut_S (by omega) (by omega)]
        have ey : sub (over (cs.take i) : Int) ((over (cs.take i) : Int) + (n : Int)) T = (T.drop (over (cs.take i))).take n := by
          unfold sub
          rw [show ((over (cs.take i) : Int) + (n : Int) - (over (cs.take i) : Int)).toNat = n by omega, show ((over (cs.take i) : Nat) : Int).toNat = over (cs.take i) by omega]
        rw [ey]
        refine ⟨_, _, rfl, rfl, ?_, ?_⟩
        · rw [S_len, S_len]
          have : ((T.drop (over (cs.take i))).take n).length ≤ T.length := by
            rw [List.length_take, List.length_drop]
            omega
          exact sz_le (by omega)
        · rw [S_cat]
          refine ⟨_, rfl, _, rfl, _, _, rfl, rfl, l ++ (T.drop (over (cs.take i))).take n, some (.str "keep"), some (.int (n : Int)), ?_, rfl, ?_⟩
          · rw [os]
            rfl
          · rw [os, List.append_assoc]
            rw [List.drop_drop] at er2
            exact er2
      | cut y =>
        have sy : y.length ≤ 100000 := sm.all _ hm
        have er2 : l ++ res (cs.drop (i + 1)) ((T.drop (over (cs.take i))).drop y.length) = res cs T := er
        refine iteD w_cut_put ⟨_, rfl, rfl, _, rfl, iteD w_cut_keep ⟨_, rfl, _, rfl, _, rfl, S_le sy, _, _, rfl, rfl, l, some (.str "cut"), some (.str (S y)), ?_, rfl, ?_⟩⟩
        · rw [os, S_len]
          rfl
        · rw [os]
          rw [List.drop_drop] at er2
          exact er2
    · rintro σ H1 ⟨l, v4, v5, rfl, rfl, er⟩
      rw [hvl, List.drop_length] at er
      have er2 : l = res cs T := by
        rw [← er]
        exact (List.append_nil _).symm
      rw [← er2] at q
      exact ⟨_, rfl, q⟩
end
end Ink
end
section
namespace Ink
open PySem PySem.Spec PyProof.Rows L2 SX

theorem mul_S (c m : Nat) : Txt.mul (S [c]) (m : Int) = S (List.replicate m c) := by
  refine TL.ext_tl ?_
  have h := PyProof.Rows.mul_one_list c (m : Int)
  show (Txt.mul ⟨#[c]⟩ (m : Int)).cps.toList = List.replicate m c
  rw [h, Int.toNat_natCast]
/-- one sign, so many times -/
theorem op_mulS {X : Cx} : OpR X (binaryOp .Mult) (fun x y H Q => ∃ (c m : Nat), x = .str (S [c]) ∧ y = .int (m : Int) ∧ m ≤ 1000 ∧ Q (.str (S (List.replicate m c))) H) := by
  intro pins s σ H x y v u Q I rx ry h
  obtain ⟨c, m, rfl, rfl, hm, q⟩ := h
  obtain ⟨t, rfl⟩ := rx
  obtain ⟨t', rfl⟩ := ry
  refine PySem.SB.mul ⟨?_, ?_, ?_⟩ fun t2 k => ⟨.str (S (List.replicate m c)), H, I.tok _, ⟨t2, by rw [mul_S]⟩, q⟩
  · rw [Bool.or_eq_false_iff]
    exact ⟨decide_eq_false (by omega), decide_eq_false (by omega)⟩
  · intro h1 _
    rw [S_len]
    have h2 : (1 : Int) ≤ (2 ^ 63 - 1) / (m : Int) := by
      rw [Int.le_ediv_iff_mul_le (by omega)]
      omega
    show ¬ ((1 : Int) > _)
    omega
  · intro _ _
    rw [S_len]
    exact decide_eq_false (show ¬ (1 * ((m : Int)).toNat > 2 ^ 24) by omega)

theorem okt_rep (m : Nat) : OkT (List.replicate m 10) := fun c h => by
  rw [(List.mem_replicate.mp h).2]
  decide
theorem ChAt.but {CS : Addr} {H H' : Hp} {st a : Addr} {s : List Nat} {cs : List Part} (hst : StAt CS H st s) (b : But st H H') (h : ChAt H a cs) : ChAt H' a cs := by
  have k := hst.tk b
  obtain ⟨dx, hs⟩ := hst
  obtain ⟨vs, e, q⟩ := h
  exact ⟨vs, b _ _ e (ne_of e hs (by intro z; cases z)), q.mono k⟩
def pairD (i c : Int) : PyData := .tuple [.int i, .int c]
theorem pairD_shaped (i c : Int) : SeqAt.shaped (pairD i c) = true := by
  show ((pairD i c).canLay0 && decide ((pairD i c).depth ≤ 64)) = true
  rw [Bool.and_eq_true]
  exact ⟨by simp [pairD, PyData.canLay0, PyData.canLayAll0], decide_eq_true (by simp [pairD, PyData.depth, PyData.depthAll])⟩
theorem pairD_eqv (i c : Int) : PyData.eqv (pairD i c) (pairD i c) = true := by simp [pairD, PyData.eqv, PyData.eqvAll]

section
variable {P : Program} {w : World} {K : PySem.W.Frag} {mg : Str → Option Value} {base : Heap} {k : Nat} {CP CS : Addr}

/-! ### _law_pair -/
def spPair : Sp := fun vs H Q _ => ∃ (u : Addr) (i c : Int), vs = [.ref u, .int i, .int c] ∧ H u = some (.tup [.int i, .int c]) ∧ ∀ H', Same H H' → Q (.bl true) H'
theorem scPair : FnScope ["_law_found", "_law_line_here", "_law_column"] ["_law_found", "_law_line_here", "_law_column"] (C8.fnScope (top 51)) := ⟨rfl, rfl, rfl, by decide +kernel, rfl, by decide +kernel, by decide +kernel⟩
theorem ok_pair (D : Df K mg "_law_pair" "_law_pair" (top 51) ["_law_found", "_law_line_here", "_law_column"]) (B : Bt mg) (Gw : C8.Cal P w K mg base 1 "_law_whole" spWhole []) : C8.Cal P w K mg base 2 "_law_pair" spPair [] := by
  refine D.cal scPair (fun vs H Q E h => ?_) (fun f cdv A outer s H vs Q E hr h => ?_)
  · obtain ⟨_, _, _, rfl, _⟩ := h
    rfl
  · obtain ⟨u, i, c, rfl, hu, q⟩ := h
    refine ⟨_, pss_cons (ps_if (PW.pt (pw_or (pt_not (pt_val (pe_callB call_isi (by rfl) B.isi boot_isinstance (pa_cons (pv 0) (pa_cons (pe_ty (by rfl) B.tuple boot_tuple) pa_nil)))))
          (pw_or (pt_cmpR op_ne (pe_callB call_len_seq (by rfl) B.len PySem.boot_len (pa_cons (pv 0) pa_nil)) pe_int (nomark _))
          (pw_or (pt_not (pt_val (C8.pe_c Gw hr (by decide) (by rfl) (pa_cons (pe_ix ix_tup (pv 0) pe_int (fun _ _ => rfl)) pa_nil))))
          (pw_or1 (pt_not (pt_val (C8.pe_c Gw hr (by decide) (by rfl) (pa_cons (pe_ix ix_tup (pv 0) pe_int (fun _ _ => rfl)) pa_nil)))))))))
        (pss_one (ps_ret pe_bl)) pss_nil)
      (pss_one (ps_ret (pe_cmpR (op_eqD hr.units) (pv 0) (pe_tup (pa_cons (pv 1) (pa_cons (pv 2) pa_nil))) (nomark _)))), ?_⟩
    refine ⟨_, rfl, _, _, _, _, _, rfl, .ty _, .base (.tup hu), kit_ty k_tup_tup, true, rfl, iteF ?_⟩
    refine ⟨_, rfl, u, _, rfl, .inr (SqT.of hu), rfl, _, rfl, iteNS rfl ?_⟩
    refine ⟨_, rfl, u, _, 0, _, rfl, rfl, SqT.of hu, rfl, i, rfl, true, rfl, iteF ?_⟩
    refine ⟨_, rfl, u, _, 1, _, rfl, rfl, SqT.of hu, rfl, c, rfl, true, rfl, iteF ?_⟩
    refine ⟨_, rfl, _, rfl, _, rfl, (by show 2 ≤ sizeLine; decide), fun t ht => ?_⟩
    have s1 := same_new ht (HO.tup [V.int i, V.int c])
    refine ⟨pairD i c, pairD i c, .tup (SqT.of (s1 _ _ hu)) (.cons (.int _) (.cons (.int _) .nil)), .tup (SqT.of upd_same) (.cons (.int _) (.cons (.int _) .nil)), pairD_shaped _ _, pairD_shaped _ _, ?_⟩
    rw [pairD_eqv]
    exact q _ s1

/-! ### _law_line -/
def spLine (CP CS : Addr) (n : Nat) : Sp := fun vs H Q _ => ∃ (p st : Addr) (s : List Nat) (t : Tr) (ii ib iz col : Int) (i : Nat) (x : List Nat), vs = [.ref p, .int ii, .int ib, .int iz, .int col] ∧ ii = (i : Int) ∧ ib = (bg (lns (txt s t)) i : Int) ∧ iz = (x.length : Int) ∧ PaAt CP CS H p st s t ∧ LOk s t.toL ∧ t.cnt ≤ n ∧ s.length ≤ 100000 ∧ (lns (txt s t))[i]? = some x ∧
  ∀ H', Same H H' → Q (.bl true) H'
theorem scLine : FnScope ["_law_paper", "_law_line_here", "_law_begin", "_law_size", "_law_column", "_law_one"] ["_law_paper", "_law_line_here", "_law_begin", "_law_size", "_law_column"] (C8.fnScope (top 52)) := ⟨rfl, rfl, rfl, by decide +kernel, rfl, by decide +kernel, by decide +kernel⟩
theorem ok_line {n : Nat} (D : Df K mg "_law_line" "_law_line" (top 52) ["_law_paper", "_law_line_here", "_law_begin", "_law_size", "_law_column"]) (Gw : C8.Cal P w K mg base 1 "_law_whole" spWhole []) (Gz : C8.Met P w K mg base (n + 5) CP "line_size" (spLineSize CP CS n) []) (Gp : C8.Met P w K mg base (n + 6) CP "place_at" (spPlaceAt CP CS n) []) :
    C8.Cal P w K mg base (n + 7) "_law_line" (spLine CP CS n) [] := by
  refine D.cal (k := n + 6) scLine (fun vs H Q E h => ?_) (fun f cdv A outer s H vs Q E hr h => ?_)
  · obtain ⟨_, _, _, _, _, _, _, _, _, _, rfl, _⟩ := h
    rfl
  · obtain ⟨p, st, z, t, _, _, _, col, i, x, rfl, rfl, rfl, rfl, pa, ok, hc, hz, hx, q⟩ := h
    have g1 : 1 ≤ n + 6 := by omega
    have g5 : n + 5 ≤ n + 6 := by omega
    refine ⟨_, pss_cons (ps_if (PW.pt (pw_or (pt_not (pt_val (C8.pe_c Gw hr g1 (by rfl) (pa_cons (C8.pe_mt Gz hr g5 (pv 0) (pa_cons (pv 1) pa_nil)) pa_nil))))
          (pw_or1 (pt_cmpR op_ne (C8.pe_mt Gz hr g5 (pv 0) (pa_cons (pv 1) pa_nil)) (pv 3) (nomark _))))) (pss_one (ps_ret pe_bl)) pss_nil)
      (pss_cons (ps_for PassesOwn.never rfl (pi_list (pe_lst (pa_cons pe_int (pa_cons (pe_op op_mod (pv 4) (pe_op op_add (pv 3) pe_int)) (pa_cons (pv 3) pa_nil))))) (pg_name (i := 5) scLine.nd rfl (Or.inl rfl))
        (pss_one (ps_if (PW.pt (pw_or (pt_not (pt_val (C8.pe_c Gw hr g1 (by rfl) (pa_cons (C8.pe_mt Gp hr (Nat.le_refl _) (pv 0) (pa_cons (pv 1) (pa_cons (pv 5) pa_nil))) pa_nil))))
            (pw_or1 (pt_cmpR op_ne (C8.pe_mt Gp hr (Nat.le_refl _) (pv 0) (pa_cons (pv 1) (pa_cons (pv 5) pa_nil))) (pe_op op_add (pv 2) (pv 5)) (nomark _))))) (pss_one (ps_ret pe_bl)) pss_nil)))
      (pss_one (ps_ret pe_bl))), ?_⟩
    have pa0 := pa
    obtain ⟨dx, v, hp, _⟩ := pa0
    refine ⟨_, rfl, p, dx, _, rfl, hp, lk2 (by decide +kernel) (by decide +kernel), _, rfl, p, st, z, t, _, i, x, rfl, rfl, pa, ok, hc, hz, hx, fun H1 s1 => ⟨_, rfl, true, rfl, iteF ?_⟩⟩
    refine ⟨_, rfl, p, dx, _, rfl, s1 _ _ hp, lk2 (by decide +kernel) (by decide +kernel), _, rfl, p, st, z, t, _, i, x, rfl, rfl, pa.mono s1, ok, hc, hz, hx, fun H2 s2 => ⟨_, rfl, rfl, _, rfl, iteNS rfl ?_⟩⟩
    have r1 : 0 ≤ col % ((x.length : Int) + 1) ∧ col % ((x.length : Int) + 1) < (x.length : Int) + 1 := ⟨Int.emod_nonneg _ (by omega), Int.emod_lt_of_pos _ (by omega)⟩
    refine ⟨_, rfl, _, rfl, _, _, rfl, rfl, _, _, rfl, rfl, (by show (0 : Int) < (x.length : Int) + 1; omega), _, rfl, (by show 3 ≤ sizeLine; decide), fun L hL => ?_⟩
    have s3 := same_new hL (HO.lst [V.int 0, V.int (col % ((x.length : Int) + 1)), V.int (x.length : Int)])
    refine ⟨L, rfl, ⟨_, SqL.of upd_same⟩, for_it (walk_list (K := K) (a := L) (xs := [V.int 0, V.int (col % ((x.length : Int) + 1)), V.int (x.length : Int)])) (fun j σ H' => ∃ v5, σ = [some (.ref p), some (.int (i : Int)), some (.int (bg (lns (txt z t)) i : Int)), some (.int (x.length : Int)), some (.int col), v5] ∧ Same (upd H2 L (HO.lst [V.int 0, V.int (col % ((x.length : Int) + 1)), V.int (x.length : Int)])) H') ⟨none, rfl, Same.refl _⟩ (fun j σ H' _ h => ?_) ?_ ?_⟩
    · obtain ⟨_, _, sm⟩ := h
      exact SqL.of (sm _ _ upd_same)
    · rintro j y σ H3 H4 hj ⟨v5, rfl, sm⟩ ⟨rfl, hy⟩
      have hm := List.mem_of_getElem? hy
      have hyc : ∃ cc : Nat, y = .int (cc : Int) ∧ cc ≤ x.length := by
        rcases List.mem_cons.mp hm with e | hm
        · exact ⟨0, e, Nat.zero_le _⟩
        rcases List.mem_cons.mp hm with e | hm
        · exact ⟨(col % ((x.length : Int) + 1)).toNat, by rw [e]; congr 1; omega, by omega⟩
        · exact ⟨x.length, List.mem_singleton.mp hm, Nat.le_refl _⟩
      obtain ⟨cc, rfl, hcc⟩ := hyc
      have sA := ((s1.trans s2).trans s3).trans sm
      refine ⟨_, rfl, p, dx, _, rfl, sA _ _ hp, lk2 (by decide +kernel) (by decide +kernel), _, rfl, _, rfl, p, st, z, t, _, _, i, cc, x, rfl, rfl, rfl, pa.mono sA, ok, hc, hz, hx, hcc, fun H5 s5 => ⟨_, rfl, true, rfl, iteF ?_⟩⟩
      refine ⟨_, rfl, p, dx, _, rfl, s5 _ _ (sA _ _ hp), lk2 (by decide +kernel) (by decide +kernel), _, rfl, _, rfl, p, st, z, t, _, _, i, cc, x, rfl, rfl, rfl, pa.mono (sA.trans s5), ok, hc, hz, hx, hcc, fun H6 s6 => ⟨_, rfl, _, rfl, _, _, rfl, rfl, rfl, _, rfl, iteNS rfl ?_⟩⟩
      exact ⟨_, rfl, (sm.trans s5).trans s6⟩
    · rintro σ H3 ⟨v5, rfl, sm⟩
      exact q _ (((s1.trans s2).trans s3).trans sm)
end
end Ink
end
section
namespace Ink
open PySem PySem.Spec PyProof.Rows L2 SX

theorem same_but {H H1 H2 : Hp} {st : Addr} (s : Same H H1) (b : But st H1 H2) (h : H st = none) : Same H H2 := fun c o e => b c o (s c o e) (ne_of_none e h)
theorem cutV_four (xs : List V) : (cutV xs (some 3) (some 7)).length ≤ 4 := by
  unfold cutV
  rw [show (some (3 : Int)) = some ((3 : Nat) : Int) from rfl, show (some (7 : Int)) = some ((7 : Nat) : Int) from rfl, HT.sIx_nat, HT.sIx_nat, List.length_take]
  omega
theorem cutV_mem {xs : List V} {lo hi : Option Int} {v : V} (h : v ∈ cutV xs lo hi) : v ∈ xs := by
  unfold cutV at h
  exact List.mem_of_mem_drop (List.mem_of_mem_take h)
theorem strs_get {ls : List (List Nat)} {i : Nat} {x : List Nat} (h : ls[i]? = some x) : (((ls.map S).map V.str))[i]? = some (V.str (S x)) := by
  rw [List.getElem?_map, List.getElem?_map, h]
  rfl
theorem jn_mem_len : ∀ {ls : List (List Nat)} {x : List Nat}, x ∈ ls → x.length ≤ (jn ls).length
  | [], x, h => nomatch h
  | [y], x, h => by
    rw [List.mem_singleton.mp h]
    exact Nat.le_refl _
  | y :: z :: r, x, h => by
    show x.length ≤ (y ++ 10 :: jn (z :: r)).length
    rw [List.length_append, List.length_cons]
    rcases List.mem_cons.mp h with e | e
    · rw [e]
      omega
    · have := jn_mem_len (ls := z :: r) e
      omega

section
variable {P : Program} {w : World} {K : PySem.W.Frag} {mg : Str → Option Value} {base : Heap} {k : Nat} {CP CS : Addr}

def spLaw (K : PySem.W.Frag) : Sp := fun vs H Q _ => ∃ (a : Addr) (ns : List Int), vs = [.ref a] ∧ SqL K H a (ns.map V.int) ∧ ns.length ≤ 63 ∧ ∀ H', Q (.bl true) H'
theorem scLaw : FnScope ["_law_script", "_law_size", "_law_text", "_law_paper", "_law_k", "_law_cell", "_law_change", "_law_lines", "_law_begin", "_law_line_here", "_law_column"] ["_law_script"] (C8.fnScope (top 53)) := ⟨rfl, rfl, rfl, by decide +kernel, rfl, by decide +kernel, by decide +kernel⟩
theorem ok_law {f : Addr} {fd : FuncData} (F : C8.Fun K "law" "law" (top 53) f fd) (B : Bt mg) (IC : C8.InsC K CP) (hP : ∃ u, mg "Paper" = some u ∧ RelV (.ref CP) u)
    (Gce : C8.Cal P w K mg base 1 "_law_cell_at" (spCell K) []) (Gtb : C8.Cal P w K mg base 2 "_law_text_by" spTextBy []) (Gpo : C8.Cal P w K mg base 106 "paper_of" (spPaperOf CP CS) []) (Gmx : C8.Cal P w K mg base 1 "_law_mixed" spMixed [])
    (Gcb : C8.Cal P w K mg base 3 "_law_change_by" spChangeBy []) (Gch : C8.Met P w K mg base 207 CP "changed" (spChanged CP CS 100) []) (Gdo : C8.Cal P w K mg base 1 "_law_done" spDone []) (Gli : C8.Met P w K mg base 2 CP "lines" (spLines CP CS) [])
    (Gln : C8.Cal P w K mg base 107 "_law_line" (spLine CP CS 100) []) (Gpr : C8.Cal P w K mg base 2 "_law_pair" spPair []) (Gla : C8.Met P w K mg base 105 CP "line_at" (spLineAt CP CS 100) []) (Gpl : C8.Met P w K mg base 106 CP "place_at" (spPlaceAt CP CS 100) []) :
    FnOk P w K mg base C8.CX0 208 f fd ["_law_script"] (spLaw K) := by
  refine C8.fn0 (k := 207) F scLaw (fun vs H Q E h => ?_) (fun cdv A outer s H vs Q E hr h => ?_)
  · obtain ⟨_, _, rfl, _⟩ := h
    rfl
  · obtain ⟨a, ns, rfl, hS, hn, q⟩ := h
    refine ⟨_, pss_cons (ps_set (i := 1) scLaw.nd rfl (Or.inl rfl) (pe_op op_mod (C8.pe_c Gce hr (by decide) (by rfl) (pa_cons (pv 0) (pa_cons pe_int pa_nil))) pe_int))
      (C8.pss_cut (ps_if (pt_cmpR op_eq (pe_op op_mod (pe_op op_fdiv (C8.pe_c Gce hr (by decide) (by rfl) (pa_cons (pv 0) (pa_cons pe_int pa_nil))) pe_int) pe_int) pe_int (nomark _))
        (pss_one (ps_set (i := 1) scLaw.nd rfl (Or.inl rfl) (pe_op op_add pe_int (pe_op op_mod (pe_op op_fdiv (C8.pe_c Gce hr (by decide) (by rfl) (pa_cons (pv 0) (pa_cons pe_int pa_nil))) pe_int) pe_int)))) pss_nil)
      (pss_cons (ps_set (i := 2) scLaw.nd rfl (Or.inl rfl) (C8.pe_c Gtb hr (by decide) (by rfl) (pa_cons (C8.pe_c Gce hr (by decide) (by rfl) (pa_cons (pv 0) (pa_cons pe_int pa_nil))) (pa_cons (pv 1) pa_nil))))
      (C8.pss_cut (ps_if (pt_cmpR op_eq (pe_op op_mod (C8.pe_c Gce hr (by decide) (by rfl) (pa_cons (pv 0) (pa_cons pe_int pa_nil))) pe_int) pe_int (nomark _))
        (pss_one (ps_set (i := 2) scLaw.nd rfl (Or.inl rfl) (pe_op op_mulS pe_str (pe_op op_mod (pv 1) pe_int)))) pss_nil)
      (pss_cons (ps_set (i := 3) scLaw.nd rfl (Or.inl rfl) (C8.pe_c Gpo hr (by decide) (by rfl) (pa_cons (pv 2) pa_nil)))
      (pss_cons (ps_for PassesOwn.never rfl (pi_enum (by rfl) B.enum (pa_cons (pe_slice sl_list (pv 0) (po_some pe_int) (po_some pe_int)) pa_nil)) (pg_tup rfl (pgs_cons (pg_name (i := 4) scLaw.nd rfl (Or.inl rfl)) (pgs_cons (pg_name (i := 5) scLaw.nd rfl (Or.inl rfl)) pgs_nil)))
        (pss_cons (ps_set (i := 6) scLaw.nd rfl (Or.inl rfl) (C8.pe_c Gcb hr (by decide) (by rfl) (pa_cons (C8.pe_c Gmx hr (by decide) (by rfl) (pa_cons (pv 5) (pa_cons (pv 4) pa_nil))) (pa_cons (pv 2) pa_nil))))
        (pss_cons (ps_set (i := 3) scLaw.nd rfl (Or.inl rfl) (C8.pe_mt Gch hr (by decide) (pv 3) (pa_cons (pv 6) pa_nil)))
        (pss_one (ps_set (i := 2) scLaw.nd rfl (Or.inl rfl) (C8.pe_c Gdo hr (by decide) (by rfl) (pa_cons (pv 2) (pa_cons (pv 6) pa_nil))))))))
      (pss_cons (ps_set (i := 7) scLaw.nd rfl (Or.inl rfl) (pe_split (pv 2) pe_str))
      (pss_cons (ps_if (PW.pt (pw_or (pt_not (pt_val (pe_callB (C8.call_isC IC) (by rfl) B.isi boot_isinstance (pa_cons (pv 3) (pa_cons (C8.pe_gc (by rfl) hP) pa_nil)))))
          (pw_or1 (pt_cmpR op_ne (C8.pe_mt0 Gli hr (by decide) (pv 3)) (pe_callB call_len_seq (by rfl) B.len PySem.boot_len (pa_cons (pv 7) pa_nil)) (nomark _))))) (pss_one (ps_ret pe_bl)) pss_nil)
      (pss_cons (ps_set (i := 8) scLaw.nd rfl (Or.inl rfl) pe_int)
      (pss_cons (ps_for PassesOwn.never rfl (pi_range1 (by rfl) B.range (pa_cons (pe_callB call_len_seq (by rfl) B.len PySem.boot_len (pa_cons (pv 7) pa_nil)) pa_nil)) (pg_name (i := 9) scLaw.nd rfl (Or.inl rfl))
        (pss_cons (ps_if (pt_not (pt_val (C8.pe_c Gln hr (by decide) (by rfl) (pa_cons (pv 3) (pa_cons (pv 9) (pa_cons (pv 8) (pa_cons (pe_callB call_len_str (by rfl) B.len PySem.boot_len (pa_cons (pe_ix ix_list (pv 7) (pv 9) (fun _ _ => rfl)) pa_nil))
            (pa_cons (pe_op op_add (C8.pe_c Gce hr (by decide) (by rfl) (pa_cons (pv 0) (pa_cons pe_int pa_nil))) (pe_op op_mul pe_int (pv 9))) pa_nil)))))))) (pss_one (ps_ret pe_bl)) pss_nil)
        (pss_cons (ps_for PassesOwn.never rfl (pi_range1 (by rfl) B.range (pa_cons (pe_op op_add (pe_callB call_len_str (by rfl) B.len PySem.boot_len (pa_cons (pe_ix ix_list (pv 7) (pv 9) (fun _ _ => rfl)) pa_nil)) pe_int) pa_nil)) (pg_name (i := 10) scLaw.nd rfl (Or.inl rfl))
          (pss_one (ps_if (PW.pt (pw_or (pt_cmpR op_lt (pe_callB call_len_str (by rfl) B.len PySem.boot_len (pa_cons (pv 2) pa_nil)) pe_int (nomark _)) (pw_or1 (pt_cmpR op_eq (pe_op op_mod (pe_op op_add (pv 8) (pv 10)) pe_int) pe_int (nomark _)))))
            (pss_cons (ps_if (pt_not (pt_val (C8.pe_c Gpr hr (by decide) (by rfl) (pa_cons (C8.pe_mt Gla hr (by decide) (pv 3) (pa_cons (pe_op op_add (pv 8) (pv 10)) pa_nil)) (pa_cons (pv 9) (pa_cons (pv 10) pa_nil)))))) (pss_one (ps_ret pe_bl)) pss_nil)
            (pss_one (ps_if (pt_cmpR op_ne (C8.pe_mt Gpl hr (by decide) (pv 3) (pa_cons (pv 9) (pa_cons (pv 10) pa_nil))) (pe_op op_add (pv 8) (pv 10)) (nomark _)) (pss_one (ps_ret pe_bl)) pss_nil)))
            pss_nil)))
        (pss_one (ps_set (i := 8) scLaw.nd rfl (Or.inl rfl) (pe_op op_add (pe_op op_add (pv 8) (pe_callB call_len_str (by rfl) B.len PySem.boot_len (pa_cons (pe_ix ix_list (pv 7) (pv 9) (fun _ _ => rfl)) pa_nil))) pe_int))))))
      (pss_one (ps_ret (pe_cmpR op_eq (pv 8) (pe_op op_add (pe_callB call_len_str (by rfl) B.len PySem.boot_len (pa_cons (pv 2) pa_nil)) pe_int) (nomark _))))))))))))), ?_⟩
    -- the size
    refine ⟨_, rfl, a, ns, 0, rfl, hS, by decide, fun c0 => ⟨_, _, rfl, rfl, (by show (0 : Int) < 25; decide), ?_⟩⟩
    have r25 : 0 ≤ c0 % 25 ∧ c0 % 25 < 25 := ⟨Int.emod_nonneg _ (by decide), Int.emod_lt_of_pos _ (by decide)⟩
    refine ⟨fun σ' H' => ∃ m : Nat, m ≤ 199 ∧ σ' = [some (.ref a), some (.int (m : Int)), none, none, none, none, none, none, none, none, none] ∧ H' = H, ?_, ?_⟩
    · refine ⟨_, rfl, a, ns, 0, rfl, hS, by decide, fun c1 => ⟨_, _, rfl, rfl, ⟨by decide, by decide⟩, _, _, rfl, rfl, (by show (0 : Int) < 8; decide), rfl, _, rfl, ite2 (fun _ => ?_) (fun _ => ?_)⟩⟩
      · refine ⟨_, rfl, a, ns, 0, rfl, hS, by decide, fun c2 => ⟨_, _, rfl, rfl, ⟨by decide, by decide⟩, _, _, rfl, rfl, (by show (0 : Int) < 140; decide), _, _, rfl, rfl, ?_⟩⟩
        have r140 : 0 ≤ c2 / 200 % 140 ∧ c2 / 200 % 140 < 140 := ⟨Int.emod_nonneg _ (by decide), Int.emod_lt_of_pos _ (by decide)⟩
        refine ⟨(60 + c2 / 200 % 140).toNat, by omega, ?_, rfl⟩
        rw [show (((60 + c2 / 200 % 140).toNat : Nat) : Int) = 60 + c2 / 200 % 140 by omega]
        rfl
      · refine ⟨(c0 % 25).toNat, by omega, ?_, rfl⟩
        rw [show (((c0 % 25).toNat : Nat) : Int) = c0 % 25 by omega]
        rfl
    rintro σ' H' ⟨m, hm, rfl, rfl⟩
    -- the text
    refine ⟨_, rfl, a, ns, 1, rfl, hS, by decide, fun c3 => ⟨_, rfl, c3, _, m, rfl, rfl, by omega, fun H1 T0 s1 ok0 l0 => ?_⟩⟩
    refine ⟨fun σ' H2 => ∃ T : List Nat, OkT T ∧ T.length ≤ 199 ∧ σ' = [some (.ref a), some (.int (m : Int)), some (.str (S T)), none, none, none, none, none, none, none, none] ∧ H2 = H1, ?_, ?_⟩
    · refine ⟨_, rfl, a, ns, 2, rfl, s1.seq hS, by decide, fun c4 => ⟨_, _, rfl, rfl, (by show (0 : Int) < 8; decide), rfl, _, rfl, ite2 (fun _ => ?_) (fun _ => ?_)⟩⟩
      · refine ⟨_, rfl, _, _, rfl, rfl, (by show (0 : Int) < 25; decide), 10, m % 25, congrArg V.str nl_S, rfl, by omega, List.replicate (m % 25) 10, okt_rep _, by rw [List.length_replicate]; omega, rfl, rfl⟩
      · exact ⟨T0, ok0, by omega, rfl, rfl⟩
    rintro σ' H2 ⟨T1, ok1, l1, rfl, rfl⟩
    -- the paper
    refine ⟨_, rfl, T1, rfl, ok1, by omega, fun H3 pp st z t s3 hst3 pa3 lk3 e3 c3 zl3 => ?_⟩
    have s13 := s1.trans s3
    have st0 : H' st = none := s1.free hst3
    -- the changes
    refine ⟨_, rfl, 3, rfl, 7, rfl, a, _, rfl, s13.seq hS, fun L hL => ⟨L, _, rfl, SqL.of upd_same, ?_⟩⟩
    have sL := same_new hL (HO.lst (cutV (ns.map V.int) (some 3) (some 7)))
    have pa4 := pa3.mono sL
    have hLl : (upd H3 L (HO.lst (cutV (ns.map V.int) (some 3) (some 7)))) L = some (HO.lst (cutV (ns.map V.int) (some 3) (some 7))) := upd_same
    have c4 := cutV_four (ns.map V.int)
    have sHL := s13.trans sL
    generalize hHL : upd H3 L (HO.lst (cutV (ns.map V.int) (some 3) (some 7))) = HL at sL pa4 hLl sHL
    have Lne : L ≠ st := by
      obtain ⟨_, _, _, ⟨dy, hb⟩, _⟩ := pa4
      exact ne_of hLl hb (by intro y; cases y)
    refine for_it (walk_enum (K := K) (a := L) (xs := cutV (ns.map V.int) (some 3) (some 7))) (fun i σ H4 => ∃ (pp : Addr) (z : List Nat) (t : Tr) (v4 v5 v6 : Option V), σ = [some (.ref a), some (.int (m : Int)), some (.str (S (txt z t))), some (.ref pp), v4, v5, v6, none, none, none, none] ∧
      But st HL H4 ∧ PaAt CP CS H4 pp st z t ∧ LOk z t.toL ∧ OkT (txt z t) ∧ (txt z t).length ≤ 200 + 75 * i ∧ t.cnt ≤ 1 + 16 * i ∧ z.length ≤ 200 + 75 * i) ?_ (fun i σ H4 _ h => ?_) ?_ ?_
    · refine ⟨pp, z, t, none, none, none, ?_, But.refl _ _, pa4, lk3, by rw [e3]; exact ok1, by rw [e3]; omega, by omega, by omega⟩
      rw [e3]
      rfl
    · obtain ⟨_, _, _, _, _, _, _, b, _⟩ := h
      exact SqL.of (b _ _ hLl Lne)
    · rintro i x σ H4 H5 hi ⟨pp, z, t, v4, v5, v6, rfl, bt, pa, lk, ok, tl, tc, zl⟩ ⟨u, y1, y2, rfl, hu, rfl, e1, e2⟩
      have hi4 : i < 4 := by omega
      obtain rfl : V.int (i : Int) = y1 := Option.some.inj e1
      obtain ⟨cc, _, rfl⟩ := List.mem_map.mp (cutV_mem (List.mem_of_getElem? e2))
      have su := same_new hu (HO.tup [V.int (i : Int), V.int cc])
      have szt : (txt z t).length = t.sz := sz_len lk
      refine ⟨u, _, rfl, SqT.of upd_same, rfl, _, _, rfl, _, _, rfl, rfl, ?_⟩
      refine ⟨_, rfl, _, rfl, cc, (i : Int), rfl, fun nn n0 n1 => ⟨_, rfl, nn, txt z t, rfl, ok, by omega, fun H6 b cs s6 ch nt sm ft cl cp => ?_⟩⟩
      have s56 := su.trans s6
      have pa6 := pa.mono s56
      have pa6' := pa6
      obtain ⟨dx, v, hp, hstA, hnd⟩ := pa6'
      refine ⟨_, rfl, pp, dx, _, rfl, hp, lk2 (by decide +kernel) (by decide +kernel), _, rfl, pp, st, b, z, t, cs, rfl, pa6, lk, by omega, by omega, by omega, ch, nt, sm, ft, fun H7 pp2 z2 t2 b7 pa7 lk7 e7 c7 l7 => ?_⟩
      refine ⟨_, rfl, _, rfl, txt z t, b, cs, rfl, ch.but hstA b7, sm, ft, by omega, by omega, ?_⟩
      have rl := res_len ft
      refine ⟨pp2, z2, t2, some (.int (i : Int)), some (.int cc), some (.ref b), ?_, (bt.trans (But.of s56)).trans b7, pa7, lk7, ?_, ?_, by omega, by omega⟩
      · rw [e7]
        rfl
      · rw [e7]
        exact res_ok ft ok
      · rw [e7]
        omega
    rintro σ H4 ⟨pp, z, t, v4, v5, v6, rfl, bt, pa, lk, ok, tl, tc, zl⟩
    have sH4 : Same H' H4 := same_but sHL bt st0
    have szt : (txt z t).length = t.sz := sz_len lk
    have tl5 : (txt z t).length ≤ 500 := by omega
    have zl5 : z.length ≤ 500 := by omega
    have tc5 : t.cnt ≤ 65 := by omega
    have lns1 := lns_len lk
    have al := bg_all (lns_ne (txt z t))
    rw [lns_jn] at al
    have lnsb : (lns (txt z t)).length ≤ 501 := by
      have q1 := en_cnt lk
      have q2 : (txt z t).count 10 ≤ (txt z t).length := List.count_le_length
      have q3 : (txt z t).count 10 = t.en := q1
      omega
    -- the lines
    refine ⟨_, rfl, ⟨_, rfl⟩, _, _, rfl, rfl, by decide +kernel, by rw [S_len]; exact sz_le (by omega), fun pl hpl => ?_⟩
    rw [split10]
    have s8 := same_new hpl (HO.lst (((lns (txt z t)).map S).map V.str))
    have pa8 := pa.mono s8
    have hl8 : (upd H4 pl (HO.lst (((lns (txt z t)).map S).map V.str))) pl = some (HO.lst (((lns (txt z t)).map S).map V.str)) := upd_same
    have sc8 := (sH4.trans s8).seq hS
    generalize upd H4 pl (HO.lst (((lns (txt z t)).map S).map V.str)) = H8 at s8 pa8 hl8 sc8
    have pa8' := pa8
    obtain ⟨dx, v, hp, hstA, hnd⟩ := pa8'
    have ll : ((((lns (txt z t)).map S).map V.str).length) = (lns (txt z t)).length := by rw [List.length_map, List.length_map]
    refine ⟨_, rfl, pp, dx, _, rfl, hp, true, rfl, iteF ?_⟩
    refine ⟨_, rfl, pp, dx, _, rfl, hp, lk2 (by decide +kernel) (by decide +kernel), pp, st, z, t, rfl, pa8, _, rfl, pl, _, rfl, .inl (SqL.of hl8), rfl, _, rfl, iteNS (by rw [ll, lns1]) ?_⟩
    -- every line
    refine ⟨_, rfl, pl, _, rfl, .inl (SqL.of hl8), _, rfl, by omega, by rw [ll]; omega, for_it walk_range (fun i σ H9 => ∃ v9 v10, σ = [some (.ref a), some (.int (m : Int)), some (.str (S (txt z t))), some (.ref pp), v4, v5, v6, some (.ref pl), some (.int (bg (lns (txt z t)) i : Int)), v9, v10] ∧ Same H8 H9) ⟨none, none, ?_, Same.refl _⟩ (fun _ _ _ _ _ => trivial) ?_ ?_⟩
    · rw [show bg (lns (txt z t)) 0 = 0 from by cases lns (txt z t) <;> rfl]
      rfl
    · rintro i x σ H9 H10 hi ⟨v9, v10, rfl, s9⟩ ⟨rfl, rfl⟩
      have hi2 : i < (lns (txt z t)).length := by
        rw [ll] at hi
        omega
      obtain ⟨x, hx⟩ : ∃ x, (lns (txt z t))[i]? = some x := ⟨_, List.getElem?_eq_getElem hi2⟩
      have xl : x.length ≤ (txt z t).length := by
        have := jn_mem_len (List.mem_of_getElem? hx)
        rw [lns_jn] at this
        exact this
      have gx := strs_get hx
      have hxs : (S x).length ≤ sizeLine := S_le (by omega)
      have bs := bg_succ hx
      refine ⟨_, rfl, _, rfl, _, rfl, _, rfl, _, rfl, pl, _, _, _, rfl, rfl, SqL.of (s9 _ _ hl8), at_of (j := i) (by omega) gx, _, rfl, hxs, _, rfl, a, ns, 8, rfl, s9.seq sc8, by decide, fun c9 => ⟨_, rfl, _, _, rfl, rfl, .inl ⟨by decide, by decide⟩, _, _, rfl, rfl,
        pp, st, z, t, _, _, _, _, i, x, rfl, by omega, rfl, by rw [S_len], pa8.mono s9, lk, by omega, by omega, hx, fun H11 s11 => ⟨true, rfl, iteF ?_⟩⟩⟩
      have s911 := s9.trans s11
      refine ⟨_, rfl, _, rfl, pl, _, _, _, rfl, rfl, SqL.of (s911 _ _ hl8), at_of (j := i) (by omega) gx, _, rfl, hxs, _, _, rfl, rfl, _, rfl, by rw [S_len]; omega, by rw [S_len]; omega,
        for_it walk_range (fun j σ H12 => ∃ v10, σ = [some (.ref a), some (.int (m : Int)), some (.str (S (txt z t))), some (.ref pp), v4, v5, v6, some (.ref pl), some (.int (bg (lns (txt z t)) i : Int)), some (.int (0 + (i : Int))), v10] ∧ Same H8 H12) ⟨_, rfl, s911⟩ (fun _ _ _ _ _ => trivial) ?_ ?_⟩
      · rintro j y σ H12 H13 hj ⟨v10, rfl, s12⟩ ⟨rfl, rfl⟩
        have hjx : j ≤ x.length := by
          rw [S_len] at hj
          omega
        have paJ := pa8.mono s12
        refine ⟨_, rfl, _, rfl, S_le (by omega), _, _, rfl, rfl, _, rfl, ite2 (fun _ => ?_) (fun _ => ⟨_, rfl, _, rfl, _, _, rfl, rfl, _, _, rfl, rfl, (by show (0 : Int) < 7; decide), rfl, _, rfl, ite2 (fun _ => ?_) (fun _ => ⟨_, rfl, s12⟩)⟩)⟩
        all_goals
          refine ⟨_, rfl, pp, dx, _, rfl, s12 _ _ hp, lk2 (by decide +kernel) (by decide +kernel), _, rfl, _, rfl, _, _, rfl, rfl, pp, st, z, t, _, i, j, x, rfl, by omega, paJ, lk, by omega, by omega, hx, hjx, fun H14 u s14 hu => ?_⟩
          refine ⟨_, rfl, _, rfl, u, _, _, rfl, by rw [Int.zero_add, Int.zero_add]; exact hu, fun H15 s15 => ⟨true, rfl, iteF ?_⟩⟩
          have s1215 := s12.trans (s14.trans s15)
          refine ⟨_, rfl, pp, dx, _, rfl, s1215 _ _ hp, lk2 (by decide +kernel) (by decide +kernel), _, rfl, _, rfl, pp, st, z, t, _, _, i, j, x, rfl, by omega, by omega, pa8.mono s1215, lk, by omega, by omega, hx, hjx, fun H16 s16 => ?_⟩
          refine ⟨_, rfl, _, rfl, _, _, rfl, rfl, rfl, _, rfl, iteNS (by rw [Int.zero_add]) ?_⟩
          exact ⟨_, rfl, s1215.trans s16⟩
      · rintro σ H12 ⟨v10, rfl, s12⟩
        refine ⟨_, rfl, _, rfl, _, rfl, pl, _, _, _, rfl, rfl, SqL.of (s12 _ _ hl8), at_of (j := i) (by omega) gx, _, rfl, hxs, _, _, rfl, rfl, _, _, rfl, rfl, some (.int (0 + (i : Int))), v10, ?_, s12⟩
        rw [bs, S_len]
        rfl
    · rintro σ H9 ⟨v9, v10, rfl, s9⟩
      refine ⟨_, rfl, _, rfl, _, rfl, S_le (by omega), _, _, rfl, rfl, rfl, ?_⟩
      have e : V.int (bg (lns (txt z t)) (((((lns (txt z t)).map S).map V.str).length : Nat) : Int).toNat : Int) = V.int ((((S (txt z t)).length : Nat) : Int) + 1) := by
        rw [Int.toNat_natCast, ll, al, S_len]
        rfl
      show Q (.bl (decide (V.int (bg (lns (txt z t)) (((((lns (txt z t)).map S).map V.str).length : Nat) : Int).toNat : Int) = V.int ((((S (txt z t)).length : Nat) : Int) + 1)))) H9
      rw [decide_eq_true e]
      exact q _
end
end Ink
end
section
/-! The facts of the top; the law's own head. -/
namespace Ink
open PySem PySem.Spec PyProof.Rows L2 SX
section
variable {K : PySem.W.Frag} {mg : Str → Option Value} {h : Heap}
theorem df_mk {x nm : Str} {st : Stmt} {ps : List Str} {f : Addr} {oc kV doc pm cdv ct : Value} {od an : Option Addr} {osl : Array (Option Value)} (X : K.In h) (G : h.Ns mainGlobals mg) (a : PySem.W.nsIn K mainGlobals x = some (some (.ref f)))
    (l : K.lookup f = some ⟨oc, od, .func (PySem.W.fnOf nm nm (C8.fnArgs st) (C8.fnBody st) (C8.fnScope st) .none kV doc pm an cdv ct), osl⟩) (c : PySem.W.codeIn K cdv nm = true) (k : PySem.W.keepIn K (.ref f) = true)
    (hb : ∀ (kV doc pm : Value) (an : Option Addr) (cdv ct : Value) (us : List Value), us.length = ps.length → bindArgs (PySem.W.fnOf nm nm (C8.fnArgs st) (C8.fnBody st) (C8.fnScope st) .none kV doc pm an cdv ct) ⟨us, []⟩ = pure (ps.zip us)) : Df K mg x nm st ps :=
  ⟨f, _, ⟨⟨oc, od, .none, kV, doc, pm, an, cdv, ct, osl, rfl, l, c⟩⟩, .all (hb kV doc pm an cdv ct), k, PySem.W.mg_of X G a⟩
theorem mf_mk {C : Addr} {m qual : Str} {st : Stmt} {ps : List Str} {f : Addr} {oc kV doc pm cdv ct : Value} {od an : Option Addr} {osl : Array (Option Value)} (cl : Cls K C) (a : PySem.W.findIn K (.ref C) m = some (some (.ref f))) (i : PySem.W.isFn K (.ref f) = true)
    (l : K.lookup f = some ⟨oc, od, .func (PySem.W.fnOf m qual (C8.fnArgs st) (C8.fnBody st) (C8.fnScope st) .none kV doc pm an cdv ct), osl⟩) (c : PySem.W.codeIn K cdv qual = true) (k : PySem.W.keepIn K (.ref f) = true)
    (hb : ∀ (kV doc pm : Value) (an : Option Addr) (cdv ct : Value) (us : List Value), us.length = ps.length → bindArgs (PySem.W.fnOf m qual (C8.fnArgs st) (C8.fnBody st) (C8.fnScope st) .none kV doc pm an cdv ct) ⟨us, []⟩ = pure (ps.zip us)) : Mf K C m qual st ps :=
  ⟨f, _, ⟨⟨oc, od, .none, kV, doc, pm, an, cdv, ct, osl, rfl, l, c⟩⟩, .all (hb kV doc pm an cdv ct), cl, ⟨a, i, k⟩⟩
theorem nf_mk {C : Addr} {x qual : Str} {st : Stmt} {ps : List Str} {f : Addr} {oc kV doc pm cdv ct : Value} {od an : Option Addr} {osl : Array (Option Value)} (X : K.In h) (G : h.Ns mainGlobals mg) (ax : PySem.W.nsIn K mainGlobals x = some (some (.ref C))) (mk : PySem.W.makesIn K C = true) (kc : PySem.W.keepIn K (.ref C) = true)
    (a : PySem.W.findIn K (.ref C) "__init__" = some (some (.ref f))) (i : PySem.W.isFn K (.ref f) = true)
    (l : K.lookup f = some ⟨oc, od, .func (PySem.W.fnOf "__init__" qual (C8.fnArgs st) (C8.fnBody st) (C8.fnScope st) .none kV doc pm an cdv ct), osl⟩) (c : PySem.W.codeIn K cdv qual = true)
    (hb : ∀ (kV doc pm : Value) (an : Option Addr) (cdv ct : Value) (us : List Value), us.length = ps.length → bindArgs (PySem.W.fnOf "__init__" qual (C8.fnArgs st) (C8.fnBody st) (C8.fnScope st) .none kV doc pm an cdv ct) ⟨us, []⟩ = pure (ps.zip us)) : Nf K mg C x qual st ps :=
  ⟨f, _, ⟨⟨oc, od, .none, kV, doc, pm, an, cdv, ct, osl, rfl, l, c⟩⟩, .all (hb kV doc pm an cdv ct), ⟨mk, a, i, kc⟩, PySem.W.mg_of X G ax⟩
end
theorem all_mk {l : PySem.W.OpenLaw} {w : World} {K : PySem.W.Frag} {h : Heap} {mg : Str → Option Value} {fa CS CP f1 f2 f3 f4 f5 f6 f7 f8 f9 f10 f11 f12 f13 f14 f15 f16 f17 f18 f19 f20 f21 f22 f23 f24 f25 f26 f27 f28 f29 f30 f31 f32 f33 f34 f35 f36 f37 f38 f39 f40 f41 f42 f43 f44 f45 f46 f47 f48 : Addr} (X : K.In h) (G : h.Ns mainGlobals mg) (hfa : mg "law" = some (.ref fa))
    {od1 an1 od2 an2 od3 an3 od4 an4 od5 an5 od6 an6 od7 an7 od8 an8 od9 an9 od10 an10 od11 an11 od12 an12 od13 an13 od14 an14 od15 an15 od16 an16 od17 an17 od18 an18 od19 an19 od20 an20 od21 an21 od22 an22 od23 an23 od24 an24 od25 an25 od26 an26 od27 an27 od28 an28 od29 an29 od30 an30 od31 an31 od32 an32 od33 an33 od34 an34 od35 an35 od36 an36 od37 an37 od38 an38 od39 an39 od40 an40 od41 an41 od42 an42 od43 an43 od44 an44 od45 an45 od46 an46 od47 an47 od48 an48 : Option Addr} {sl1 sl2 sl3 sl4 sl5 sl6 sl7 sl8 sl9 sl10 sl11 sl12 sl13 sl14 sl15 sl16 sl17 sl18 sl19 sl20 sl21 sl22 sl23 sl24 sl25 sl26 sl27 sl28 sl29 sl30 sl31 sl32 sl33 sl34 sl35 sl36 sl37 sl38 sl39 sl40 sl41 sl42 sl43 sl44 sl45 sl46 sl47 sl48 : Array (Option Value)} {oc1 kV1 dc1 pm1 cd1 ct1 oc2 kV2 dc2 pm2 cd2 ct2 oc3 kV3 dc3 pm3 cd3 ct3 oc4 kV4 dc4 pm4 cd4 ct4 oc5 kV5 dc5 pm5 cd5 ct5 oc6 kV6 dc6 pm6 cd6 ct6 oc7 kV7 dc7 pm7 cd7 ct7 oc8 kV8 dc8 pm8 cd8 ct8 oc9 kV9 dc9 pm9 cd9 ct9 oc10 kV10 dc10 pm10 cd10 ct10 oc11 kV11 dc11 pm11 cd11 ct11 oc12 kV12 dc12 pm12 cd12 ct12 oc13 kV13 dc13 pm13 cd13 ct13 oc14 kV14 dc14 pm14 cd14 ct14 oc15 kV15 dc15 pm15 cd15 ct15 oc16 kV16 dc16 pm16 cd16 ct16 oc17 kV17 dc17 pm17 cd17 ct17 oc18 kV18 dc18 pm18 cd18 ct18 oc19 kV19 dc19 pm19 cd19 ct19 oc20 kV20 dc20 pm20 cd20 ct20 oc21 kV21 dc21 pm21 cd21 ct21 oc22 kV22 dc22 pm22 cd22 ct22 oc23 kV23 dc23 pm23 cd23 ct23 oc24 kV24 dc24 pm24 cd24 ct24 oc25 kV25 dc25 pm25 cd25 ct25 oc26 kV26 dc26 pm26 cd26 ct26 oc27 kV27 dc27 pm27 cd27 ct27 oc28 kV28 dc28 pm28 cd28 ct28 oc29 kV29 dc29 pm29 cd29 ct29 oc30 kV30 dc30 pm30 cd30 ct30 oc31 kV31 dc31 pm31 cd31 ct31 oc32 kV32 dc32 pm32 cd32 ct32 oc33 kV33 dc33 pm33 cd33 ct33 oc34 kV34 dc34 pm34 cd34 ct34 oc35 kV35 dc35 pm35 cd35 ct35 oc36 kV36 dc36 pm36 cd36 ct36 oc37 kV37 dc37 pm37 cd37 ct37 oc38 kV38 dc38 pm38 cd38 ct38 oc39 kV39 dc39 pm39 cd39 ct39 oc40 kV40 dc40 pm40 cd40 ct40 oc41 kV41 dc41 pm41 cd41 ct41 oc42 kV42 dc42 pm42 cd42 ct42 oc43 kV43 dc43 pm43 cd43 ct43 oc44 kV44 dc44 pm44 cd44 ct44 oc45 kV45 dc45 pm45 cd45 ct45 oc46 kV46 dc46 pm46 cd46 ct46 oc47 kV47 dc47 pm47 cd47 ct47 oc48 kV48 dc48 pm48 cd48 ct48 : Value} {sg : Str} {tk : Tok}
    (a1 : PySem.W.nsIn K mainGlobals "is_whole" = some (some (.ref f1))) (l1 : K.lookup f1 = some ⟨oc1, od1, .func (PySem.W.fnOf "is_whole" "is_whole" (C8.fnArgs (top 8)) (C8.fnBody (top 8)) (C8.fnScope (top 8)) .none kV1 dc1 pm1 an1 cd1 ct1), sl1⟩) (c1 : PySem.W.codeIn K cd1 "is_whole" = true) (k1 : PySem.W.keepIn K (.ref f1) = true)
    (a2 : PySem.W.nsIn K mainGlobals "is_text" = some (some (.ref f2))) (l2 : K.lookup f2 = some ⟨oc2, od2, .func (PySem.W.fnOf "is_text" "is_text" (C8.fnArgs (top 9)) (C8.fnBody (top 9)) (C8.fnScope (top 9)) .none kV2 dc2 pm2 an2 cd2 ct2), sl2⟩) (c2 : PySem.W.codeIn K cd2 "is_text" = true) (k2 : PySem.W.keepIn K (.ref f2) = true)
    (a3 : PySem.W.nsIn K mainGlobals "need_text" = some (some (.ref f3))) (l3 : K.lookup f3 = some ⟨oc3, od3, .func (PySem.W.fnOf "need_text" "need_text" (C8.fnArgs (top 10)) (C8.fnBody (top 10)) (C8.fnScope (top 10)) .none kV3 dc3 pm3 an3 cd3 ct3), sl3⟩) (c3 : PySem.W.codeIn K cd3 "need_text" = true) (k3 : PySem.W.keepIn K (.ref f3) = true)
    (a4 : PySem.W.nsIn K mainGlobals "is_part" = some (some (.ref f4))) (l4 : K.lookup f4 = some ⟨oc4, od4, .func (PySem.W.fnOf "is_part" "is_part" (C8.fnArgs (top 12)) (C8.fnBody (top 12)) (C8.fnScope (top 12)) .none kV4 dc4 pm4 an4 cd4 ct4), sl4⟩) (c4 : PySem.W.codeIn K cd4 "is_part" = true) (k4 : PySem.W.keepIn K (.ref f4) = true)
    (a5 : PySem.W.nsIn K mainGlobals "need_change" = some (some (.ref f5))) (l5 : K.lookup f5 = some ⟨oc5, od5, .func (PySem.W.fnOf "need_change" "need_change" (C8.fnArgs (top 13)) (C8.fnBody (top 13)) (C8.fnScope (top 13)) .none kV5 dc5 pm5 an5 cd5 ct5), sl5⟩) (c5 : PySem.W.codeIn K cd5 "need_change" = true) (k5 : PySem.W.keepIn K (.ref f5) = true)
    (a6 : PySem.W.nsIn K mainGlobals "size_of_changes" = some (some (.ref f6))) (l6 : K.lookup f6 = some ⟨oc6, od6, .func (PySem.W.fnOf "size_of" "size_of" (C8.fnArgs (top 14)) (C8.fnBody (top 14)) (C8.fnScope (top 14)) .none kV6 dc6 pm6 an6 cd6 ct6), sl6⟩) (c6 : PySem.W.codeIn K cd6 "size_of" = true) (k6 : PySem.W.keepIn K (.ref f6) = true)
    (a7 : PySem.W.nsIn K mainGlobals "sizes" = some (some (.ref f7))) (l7 : K.lookup f7 = some ⟨oc7, od7, .func (PySem.W.fnOf "sizes" "sizes" (C8.fnArgs (top 16)) (C8.fnBody (top 16)) (C8.fnScope (top 16)) .none kV7 dc7 pm7 an7 cd7 ct7), sl7⟩) (c7 : PySem.W.codeIn K cd7 "sizes" = true) (k7 : PySem.W.keepIn K (.ref f7) = true)
    (a8 : PySem.W.nsIn K mainGlobals "height_of" = some (some (.ref f8))) (l8 : K.lookup f8 = some ⟨oc8, od8, .func (PySem.W.fnOf "height_of" "height_of" (C8.fnArgs (top 18)) (C8.fnBody (top 18)) (C8.fnScope (top 18)) .none kV8 dc8 pm8 an8 cd8 ct8), sl8⟩) (c8 : PySem.W.codeIn K cd8 "height_of" = true) (k8 : PySem.W.keepIn K (.ref f8) = true)
    (a9 : PySem.W.nsIn K mainGlobals "size_of_nodes" = some (some (.ref f9))) (l9 : K.lookup f9 = some ⟨oc9, od9, .func (PySem.W.fnOf "size_of" "size_of" (C8.fnArgs (top 19)) (C8.fnBody (top 19)) (C8.fnScope (top 19)) .none kV9 dc9 pm9 an9 cd9 ct9), sl9⟩) (c9 : PySem.W.codeIn K cd9 "size_of" = true) (k9 : PySem.W.keepIn K (.ref f9) = true)
    (a10 : PySem.W.nsIn K mainGlobals "ends_of" = some (some (.ref f10))) (l10 : K.lookup f10 = some ⟨oc10, od10, .func (PySem.W.fnOf "ends_of" "ends_of" (C8.fnArgs (top 21)) (C8.fnBody (top 21)) (C8.fnScope (top 21)) .none kV10 dc10 pm10 an10 cd10 ct10), sl10⟩) (c10 : PySem.W.codeIn K cd10 "ends_of" = true) (k10 : PySem.W.keepIn K (.ref f10) = true)
    (a11 : PySem.W.nsIn K mainGlobals "made" = some (some (.ref f11))) (l11 : K.lookup f11 = some ⟨oc11, od11, .func (PySem.W.fnOf "made" "made" (C8.fnArgs (top 22)) (C8.fnBody (top 22)) (C8.fnScope (top 22)) .none kV11 dc11 pm11 an11 cd11 ct11), sl11⟩) (c11 : PySem.W.codeIn K cd11 "made" = true) (k11 : PySem.W.keepIn K (.ref f11) = true)
    (a12 : PySem.W.nsIn K mainGlobals "turned" = some (some (.ref f12))) (l12 : K.lookup f12 = some ⟨oc12, od12, .func (PySem.W.fnOf "turned" "turned" (C8.fnArgs (top 23)) (C8.fnBody (top 23)) (C8.fnScope (top 23)) .none kV12 dc12 pm12 an12 cd12 ct12), sl12⟩) (c12 : PySem.W.codeIn K cd12 "turned" = true) (k12 : PySem.W.keepIn K (.ref f12) = true)
    (a13 : PySem.W.nsIn K mainGlobals "joined" = some (some (.ref f13))) (l13 : K.lookup f13 = some ⟨oc13, od13, .func (PySem.W.fnOf "joined" "joined" (C8.fnArgs (top 24)) (C8.fnBody (top 24)) (C8.fnScope (top 24)) .none kV13 dc13 pm13 an13 cd13 ct13), sl13⟩) (c13 : PySem.W.codeIn K cd13 "joined" = true) (k13 : PySem.W.keepIn K (.ref f13) = true)
    (a14 : PySem.W.nsIn K mainGlobals "last_off" = some (some (.ref f14))) (l14 : K.lookup f14 = some ⟨oc14, od14, .func (PySem.W.fnOf "last_off" "last_off" (C8.fnArgs (top 25)) (C8.fnBody (top 25)) (C8.fnScope (top 25)) .none kV14 dc14 pm14 an14 cd14 ct14), sl14⟩) (c14 : PySem.W.codeIn K cd14 "last_off" = true) (k14 : PySem.W.keepIn K (.ref f14) = true)
    (a15 : PySem.W.nsIn K mainGlobals "first_off" = some (some (.ref f15))) (l15 : K.lookup f15 = some ⟨oc15, od15, .func (PySem.W.fnOf "first_off" "first_off" (C8.fnArgs (top 26)) (C8.fnBody (top 26)) (C8.fnScope (top 26)) .none kV15 dc15 pm15 an15 cd15 ct15), sl15⟩) (c15 : PySem.W.codeIn K cd15 "first_off" = true) (k15 : PySem.W.keepIn K (.ref f15) = true)
    (a16 : PySem.W.nsIn K mainGlobals "met" = some (some (.ref f16))) (l16 : K.lookup f16 = some ⟨oc16, od16, .func (PySem.W.fnOf "met" "met" (C8.fnArgs (top 27)) (C8.fnBody (top 27)) (C8.fnScope (top 27)) .none kV16 dc16 pm16 an16 cd16 ct16), sl16⟩) (c16 : PySem.W.codeIn K cd16 "met" = true) (k16 : PySem.W.keepIn K (.ref f16) = true)
    (a17 : PySem.W.nsIn K mainGlobals "piece_cut" = some (some (.ref f17))) (l17 : K.lookup f17 = some ⟨oc17, od17, .func (PySem.W.fnOf "piece_cut" "piece_cut" (C8.fnArgs (top 28)) (C8.fnBody (top 28)) (C8.fnScope (top 28)) .none kV17 dc17 pm17 an17 cd17 ct17), sl17⟩) (c17 : PySem.W.codeIn K cd17 "piece_cut" = true) (k17 : PySem.W.keepIn K (.ref f17) = true)
    (a18 : PySem.W.nsIn K mainGlobals "parted" = some (some (.ref f18))) (l18 : K.lookup f18 = some ⟨oc18, od18, .func (PySem.W.fnOf "parted" "parted" (C8.fnArgs (top 29)) (C8.fnBody (top 29)) (C8.fnScope (top 29)) .none kV18 dc18 pm18 an18 cd18 ct18), sl18⟩) (c18 : PySem.W.codeIn K cd18 "parted" = true) (k18 : PySem.W.keepIn K (.ref f18) = true)
    (a19 : PySem.W.nsIn K mainGlobals "is_among" = some (some (.ref f19))) (l19 : K.lookup f19 = some ⟨oc19, od19, .func (PySem.W.fnOf "is_among" "is_among" (C8.fnArgs (top 32)) (C8.fnBody (top 32)) (C8.fnScope (top 32)) .none kV19 dc19 pm19 an19 cd19 ct19), sl19⟩) (c19 : PySem.W.codeIn K cd19 "is_among" = true) (k19 : PySem.W.keepIn K (.ref f19) = true)
    (a20 : PySem.W.nsIn K mainGlobals "node_of" = some (some (.ref f20))) (l20 : K.lookup f20 = some ⟨oc20, od20, .func (PySem.W.fnOf "node_of" "node_of" (C8.fnArgs (top 35)) (C8.fnBody (top 35)) (C8.fnScope (top 35)) .none kV20 dc20 pm20 an20 cd20 ct20), sl20⟩) (c20 : PySem.W.codeIn K cd20 "node_of" = true) (k20 : PySem.W.keepIn K (.ref f20) = true)
    (a21 : PySem.W.nsIn K mainGlobals "sealed" = some (some (.ref f21))) (l21 : K.lookup f21 = some ⟨oc21, od21, .func (PySem.W.fnOf "sealed" "sealed" (C8.fnArgs (top 36)) (C8.fnBody (top 36)) (C8.fnScope (top 36)) .none kV21 dc21 pm21 an21 cd21 ct21), sl21⟩) (c21 : PySem.W.codeIn K cd21 "sealed" = true) (k21 : PySem.W.keepIn K (.ref f21) = true)
    (a22 : PySem.W.nsIn K mainGlobals "part_of" = some (some (.ref f22))) (l22 : K.lookup f22 = some ⟨oc22, od22, .func (PySem.W.fnOf "part_of" "part_of" (C8.fnArgs (top 37)) (C8.fnBody (top 37)) (C8.fnScope (top 37)) .none kV22 dc22 pm22 an22 cd22 ct22), sl22⟩) (c22 : PySem.W.codeIn K cd22 "part_of" = true) (k22 : PySem.W.keepIn K (.ref f22) = true)
    (a23 : PySem.W.nsIn K mainGlobals "ends_ahead" = some (some (.ref f23))) (l23 : K.lookup f23 = some ⟨oc23, od23, .func (PySem.W.fnOf "ends_ahead" "ends_ahead" (C8.fnArgs (top 38)) (C8.fnBody (top 38)) (C8.fnScope (top 38)) .none kV23 dc23 pm23 an23 cd23 ct23), sl23⟩) (c23 : PySem.W.codeIn K cd23 "ends_ahead" = true) (k23 : PySem.W.keepIn K (.ref f23) = true)
    (a24 : PySem.W.nsIn K mainGlobals "end_place" = some (some (.ref f24))) (l24 : K.lookup f24 = some ⟨oc24, od24, .func (PySem.W.fnOf "end_place" "end_place" (C8.fnArgs (top 39)) (C8.fnBody (top 39)) (C8.fnScope (top 39)) .none kV24 dc24 pm24 an24 cd24 ct24), sl24⟩) (c24 : PySem.W.codeIn K cd24 "end_place" = true) (k24 : PySem.W.keepIn K (.ref f24) = true)
    (a25 : PySem.W.nsIn K mainGlobals "need_cuts" = some (some (.ref f25))) (l25 : K.lookup f25 = some ⟨oc25, od25, .func (PySem.W.fnOf "need_cuts" "need_cuts" (C8.fnArgs (top 40)) (C8.fnBody (top 40)) (C8.fnScope (top 40)) .none kV25 dc25 pm25 an25 cd25 ct25), sl25⟩) (c25 : PySem.W.codeIn K cd25 "need_cuts" = true) (k25 : PySem.W.keepIn K (.ref f25) = true)
    (a26 : PySem.W.nsIn K mainGlobals "paper_of" = some (some (.ref f26))) (l26 : K.lookup f26 = some ⟨oc26, od26, .func (PySem.W.fnOf "paper_of" "paper_of" (C8.fnArgs (top 42)) (C8.fnBody (top 42)) (C8.fnScope (top 42)) .none kV26 dc26 pm26 an26 cd26 ct26), sl26⟩) (c26 : PySem.W.codeIn K cd26 "paper_of" = true) (k26 : PySem.W.keepIn K (.ref f26) = true)
    (a27 : PySem.W.nsIn K mainGlobals "_law_cell_at" = some (some (.ref f27))) (l27 : K.lookup f27 = some ⟨oc27, od27, .func (PySem.W.fnOf "_law_cell_at" "_law_cell_at" (C8.fnArgs (top 44)) (C8.fnBody (top 44)) (C8.fnScope (top 44)) .none kV27 dc27 pm27 an27 cd27 ct27), sl27⟩) (c27 : PySem.W.codeIn K cd27 "_law_cell_at" = true) (k27 : PySem.W.keepIn K (.ref f27) = true)
    (a28 : PySem.W.nsIn K mainGlobals "_law_whole" = some (some (.ref f28))) (l28 : K.lookup f28 = some ⟨oc28, od28, .func (PySem.W.fnOf "_law_whole" "_law_whole" (C8.fnArgs (top 45)) (C8.fnBody (top 45)) (C8.fnScope (top 45)) .none kV28 dc28 pm28 an28 cd28 ct28), sl28⟩) (c28 : PySem.W.codeIn K cd28 "_law_whole" = true) (k28 : PySem.W.keepIn K (.ref f28) = true)
    (a29 : PySem.W.nsIn K mainGlobals "_law_mixed" = some (some (.ref f29))) (l29 : K.lookup f29 = some ⟨oc29, od29, .func (PySem.W.fnOf "_law_mixed" "_law_mixed" (C8.fnArgs (top 46)) (C8.fnBody (top 46)) (C8.fnScope (top 46)) .none kV29 dc29 pm29 an29 cd29 ct29), sl29⟩) (c29 : PySem.W.codeIn K cd29 "_law_mixed" = true) (k29 : PySem.W.keepIn K (.ref f29) = true)
    (a30 : PySem.W.nsIn K mainGlobals "_law_text_by" = some (some (.ref f30))) (l30 : K.lookup f30 = some ⟨oc30, od30, .func (PySem.W.fnOf "_law_text_by" "_law_text_by" (C8.fnArgs (top 47)) (C8.fnBody (top 47)) (C8.fnScope (top 47)) .none kV30 dc30 pm30 an30 cd30 ct30), sl30⟩) (c30 : PySem.W.codeIn K cd30 "_law_text_by" = true) (k30 : PySem.W.keepIn K (.ref f30) = true)
    (a31 : PySem.W.nsIn K mainGlobals "_law_neat" = some (some (.ref f31))) (l31 : K.lookup f31 = some ⟨oc31, od31, .func (PySem.W.fnOf "_law_neat" "_law_neat" (C8.fnArgs (top 48)) (C8.fnBody (top 48)) (C8.fnScope (top 48)) .none kV31 dc31 pm31 an31 cd31 ct31), sl31⟩) (c31 : PySem.W.codeIn K cd31 "_law_neat" = true) (k31 : PySem.W.keepIn K (.ref f31) = true)
    (a32 : PySem.W.nsIn K mainGlobals "_law_change_by" = some (some (.ref f32))) (l32 : K.lookup f32 = some ⟨oc32, od32, .func (PySem.W.fnOf "_law_change_by" "_law_change_by" (C8.fnArgs (top 49)) (C8.fnBody (top 49)) (C8.fnScope (top 49)) .none kV32 dc32 pm32 an32 cd32 ct32), sl32⟩) (c32 : PySem.W.codeIn K cd32 "_law_change_by" = true) (k32 : PySem.W.keepIn K (.ref f32) = true)
    (a33 : PySem.W.nsIn K mainGlobals "_law_done" = some (some (.ref f33))) (l33 : K.lookup f33 = some ⟨oc33, od33, .func (PySem.W.fnOf "_law_done" "_law_done" (C8.fnArgs (top 50)) (C8.fnBody (top 50)) (C8.fnScope (top 50)) .none kV33 dc33 pm33 an33 cd33 ct33), sl33⟩) (c33 : PySem.W.codeIn K cd33 "_law_done" = true) (k33 : PySem.W.keepIn K (.ref f33) = true)
    (a34 : PySem.W.nsIn K mainGlobals "_law_pair" = some (some (.ref f34))) (l34 : K.lookup f34 = some ⟨oc34, od34, .func (PySem.W.fnOf "_law_pair" "_law_pair" (C8.fnArgs (top 51)) (C8.fnBody (top 51)) (C8.fnScope (top 51)) .none kV34 dc34 pm34 an34 cd34 ct34), sl34⟩) (c34 : PySem.W.codeIn K cd34 "_law_pair" = true) (k34 : PySem.W.keepIn K (.ref f34) = true)
    (a35 : PySem.W.nsIn K mainGlobals "_law_line" = some (some (.ref f35))) (l35 : K.lookup f35 = some ⟨oc35, od35, .func (PySem.W.fnOf "_law_line" "_law_line" (C8.fnArgs (top 52)) (C8.fnBody (top 52)) (C8.fnScope (top 52)) .none kV35 dc35 pm35 an35 cd35 ct35), sl35⟩) (c35 : PySem.W.codeIn K cd35 "_law_line" = true) (k35 : PySem.W.keepIn K (.ref f35) = true)
    (a36 : PySem.W.nsIn K mainGlobals "law" = some (some (.ref f36))) (l36 : K.lookup f36 = some ⟨oc36, od36, .func (PySem.W.fnOf "law" "law" (C8.fnArgs (top 53)) (C8.fnBody (top 53)) (C8.fnScope (top 53)) .none kV36 dc36 pm36 an36 cd36 ct36), sl36⟩) (c36 : PySem.W.codeIn K cd36 "law" = true) (k36 : PySem.W.keepIn K (.ref f36) = true)
    (aCS : PySem.W.nsIn K mainGlobals "Stock" = some (some (.ref CS))) (pgCS : PySem.W.plainGet K CS Str.empty = true) (hdCS : PySem.W.hasDictIn K CS = true) (poCS : PySem.W.plainOver K CS = true) (saCS : PySem.W.findIn K (.ref CS) "__setattr__" = some (some (.builtin "object.__setattr__"))) (mkCS : PySem.W.makesIn K CS = true) (kcCS : PySem.W.keepIn K (.ref CS) = true) (nCS0 : PySem.W.findIn K (.ref CS) "signs" = some none)
    (aCP : PySem.W.nsIn K mainGlobals "Paper" = some (some (.ref CP))) (pgCP : PySem.W.plainGet K CP Str.empty = true) (hdCP : PySem.W.hasDictIn K CP = true) (poCP : PySem.W.plainOver K CP = true) (saCP : PySem.W.findIn K (.ref CP) "__setattr__" = some (some (.builtin "object.__setattr__"))) (mkCP : PySem.W.makesIn K CP = true) (kcCP : PySem.W.keepIn K (.ref CP) = true) (nCP0 : PySem.W.findIn K (.ref CP) "stock" = some none) (nCP1 : PySem.W.findIn K (.ref CP) "node" = some none)
    (ic1 : PySem.W.findIn K (.ref CP) "__class__" = some (some (.builtin "object.__class__"))) (ic2 : PySem.W.specialIn K (.builtin "object.__class__") "__get__" = some (some (.builtin "getset_descriptor.__get__"))) (ic3 : PySem.W.takesIn K (.builtin "object.__class__") = some true) (ic4 : PySem.W.mroIn K CP (.type "object") = some true)
    (a37 : PySem.W.findIn K (.ref CS) "__init__" = some (some (.ref f37))) (i37 : PySem.W.isFn K (.ref f37) = true) (l37 : K.lookup f37 = some ⟨oc37, od37, .func (PySem.W.fnOf "__init__" "Stock.__init__" (C8.fnArgs (inC 33 0)) (C8.fnBody (inC 33 0)) (C8.fnScope (inC 33 0)) .none kV37 dc37 pm37 an37 cd37 ct37), sl37⟩) (c37 : PySem.W.codeIn K cd37 "Stock.__init__" = true) (k37 : PySem.W.keepIn K (.ref f37) = true)
    (a38 : PySem.W.findIn K (.ref CS) "put" = some (some (.ref f38))) (i38 : PySem.W.isFn K (.ref f38) = true) (l38 : K.lookup f38 = some ⟨oc38, od38, .func (PySem.W.fnOf "put" "Stock.put" (C8.fnArgs (inC 33 2)) (C8.fnBody (inC 33 2)) (C8.fnScope (inC 33 2)) .none kV38 dc38 pm38 an38 cd38 ct38), sl38⟩) (c38 : PySem.W.codeIn K cd38 "Stock.put" = true) (k38 : PySem.W.keepIn K (.ref f38) = true)
    (a39 : PySem.W.findIn K (.ref CS) "read" = some (some (.ref f39))) (i39 : PySem.W.isFn K (.ref f39) = true) (l39 : K.lookup f39 = some ⟨oc39, od39, .func (PySem.W.fnOf "read" "Stock.read" (C8.fnArgs (inC 33 3)) (C8.fnBody (inC 33 3)) (C8.fnScope (inC 33 3)) .none kV39 dc39 pm39 an39 cd39 ct39), sl39⟩) (c39 : PySem.W.codeIn K cd39 "Stock.read" = true) (k39 : PySem.W.keepIn K (.ref f39) = true)
    (a40 : PySem.W.findIn K (.ref CP) "__init__" = some (some (.ref f40))) (i40 : PySem.W.isFn K (.ref f40) = true) (l40 : K.lookup f40 = some ⟨oc40, od40, .func (PySem.W.fnOf "__init__" "Paper.__init__" (C8.fnArgs (inC 41 0)) (C8.fnBody (inC 41 0)) (C8.fnScope (inC 41 0)) .none kV40 dc40 pm40 an40 cd40 ct40), sl40⟩) (c40 : PySem.W.codeIn K cd40 "Paper.__init__" = true) (k40 : PySem.W.keepIn K (.ref f40) = true)
    (a41 : PySem.W.findIn K (.ref CP) "size" = some (some (.ref f41))) (i41 : PySem.W.isFn K (.ref f41) = true) (l41 : K.lookup f41 = some ⟨oc41, od41, .func (PySem.W.fnOf "size" "Paper.size" (C8.fnArgs (inC 41 1)) (C8.fnBody (inC 41 1)) (C8.fnScope (inC 41 1)) .none kV41 dc41 pm41 an41 cd41 ct41), sl41⟩) (c41 : PySem.W.codeIn K cd41 "Paper.size" = true) (k41 : PySem.W.keepIn K (.ref f41) = true)
    (a42 : PySem.W.findIn K (.ref CP) "lines" = some (some (.ref f42))) (i42 : PySem.W.isFn K (.ref f42) = true) (l42 : K.lookup f42 = some ⟨oc42, od42, .func (PySem.W.fnOf "lines" "Paper.lines" (C8.fnArgs (inC 41 2)) (C8.fnBody (inC 41 2)) (C8.fnScope (inC 41 2)) .none kV42 dc42 pm42 an42 cd42 ct42), sl42⟩) (c42 : PySem.W.codeIn K cd42 "Paper.lines" = true) (k42 : PySem.W.keepIn K (.ref f42) = true)
    (a43 : PySem.W.findIn K (.ref CP) "part" = some (some (.ref f43))) (i43 : PySem.W.isFn K (.ref f43) = true) (l43 : K.lookup f43 = some ⟨oc43, od43, .func (PySem.W.fnOf "part" "Paper.part" (C8.fnArgs (inC 41 6)) (C8.fnBody (inC 41 6)) (C8.fnScope (inC 41 6)) .none kV43 dc43 pm43 an43 cd43 ct43), sl43⟩) (c43 : PySem.W.codeIn K cd43 "Paper.part" = true) (k43 : PySem.W.keepIn K (.ref f43) = true)
    (a44 : PySem.W.findIn K (.ref CP) "changed" = some (some (.ref f44))) (i44 : PySem.W.isFn K (.ref f44) = true) (l44 : K.lookup f44 = some ⟨oc44, od44, .func (PySem.W.fnOf "changed" "Paper.changed" (C8.fnArgs (inC 41 7)) (C8.fnBody (inC 41 7)) (C8.fnScope (inC 41 7)) .none kV44 dc44 pm44 an44 cd44 ct44), sl44⟩) (c44 : PySem.W.codeIn K cd44 "Paper.changed" = true) (k44 : PySem.W.keepIn K (.ref f44) = true)
    (a45 : PySem.W.findIn K (.ref CP) "line_begin" = some (some (.ref f45))) (i45 : PySem.W.isFn K (.ref f45) = true) (l45 : K.lookup f45 = some ⟨oc45, od45, .func (PySem.W.fnOf "line_begin" "Paper.line_begin" (C8.fnArgs (inC 41 8)) (C8.fnBody (inC 41 8)) (C8.fnScope (inC 41 8)) .none kV45 dc45 pm45 an45 cd45 ct45), sl45⟩) (c45 : PySem.W.codeIn K cd45 "Paper.line_begin" = true) (k45 : PySem.W.keepIn K (.ref f45) = true)
    (a46 : PySem.W.findIn K (.ref CP) "line_size" = some (some (.ref f46))) (i46 : PySem.W.isFn K (.ref f46) = true) (l46 : K.lookup f46 = some ⟨oc46, od46, .func (PySem.W.fnOf "line_size" "Paper.line_size" (C8.fnArgs (inC 41 9)) (C8.fnBody (inC 41 9)) (C8.fnScope (inC 41 9)) .none kV46 dc46 pm46 an46 cd46 ct46), sl46⟩) (c46 : PySem.W.codeIn K cd46 "Paper.line_size" = true) (k46 : PySem.W.keepIn K (.ref f46) = true)
    (a47 : PySem.W.findIn K (.ref CP) "line_at" = some (some (.ref f47))) (i47 : PySem.W.isFn K (.ref f47) = true) (l47 : K.lookup f47 = some ⟨oc47, od47, .func (PySem.W.fnOf "line_at" "Paper.line_at" (C8.fnArgs (inC 41 10)) (C8.fnBody (inC 41 10)) (C8.fnScope (inC 41 10)) .none kV47 dc47 pm47 an47 cd47 ct47), sl47⟩) (c47 : PySem.W.codeIn K cd47 "Paper.line_at" = true) (k47 : PySem.W.keepIn K (.ref f47) = true)
    (a48 : PySem.W.findIn K (.ref CP) "place_at" = some (some (.ref f48))) (i48 : PySem.W.isFn K (.ref f48) = true) (l48 : K.lookup f48 = some ⟨oc48, od48, .func (PySem.W.fnOf "place_at" "Paper.place_at" (C8.fnArgs (inC 41 11)) (C8.fnBody (inC 41 11)) (C8.fnScope (inC 41 11)) .none kV48 dc48 pm48 an48 cd48 ct48), sl48⟩) (c48 : PySem.W.codeIn K cd48 "Paper.place_at" = true) (k48 : PySem.W.keepIn K (.ref f48) = true)
    (z1 : PySem.W.nsIn K mainGlobals "isinstance" = some none)
    (z2 : PySem.W.nsIn K mainGlobals "int" = some none)
    (z3 : PySem.W.nsIn K mainGlobals "bool" = some none)
    (z4 : PySem.W.nsIn K mainGlobals "str" = some none)
    (z5 : PySem.W.nsIn K mainGlobals "tuple" = some none)
    (z6 : PySem.W.nsIn K mainGlobals "list" = some none)
    (z7 : PySem.W.nsIn K mainGlobals "len" = some none)
    (z8 : PySem.W.nsIn K mainGlobals "all" = some none)
    (z9 : PySem.W.nsIn K mainGlobals "sum" = some none)
    (z10 : PySem.W.nsIn K mainGlobals "max" = some none)
    (z11 : PySem.W.nsIn K mainGlobals "min" = some none)
    (z12 : PySem.W.nsIn K mainGlobals "range" = some none)
    (z13 : PySem.W.nsIn K mainGlobals "enumerate" = some none)
    (zS : PySem.W.nsIn K mainGlobals "SIGNS" = some (some (.str sg tk)))
    (eS : sg = S SGL) :
    ∃ fd : FuncData, (∀ (s : Shared) (v : Value), BindsTo s fd ⟨[v], []⟩ [("_law_script", v)]) ∧ ∀ base : Heap, K.In base → base.Ns mainGlobals mg → FnOk l.prog w K mg base C8.CX0 208 fa fd ["_law_script"] (spLaw K) := by
  have e := hfa.symm.trans (PySem.W.mg_of X G a36)
  cases e
  have B : Bt mg := ⟨PySem.W.mg_none_of X G z1, PySem.W.mg_none_of X G z2, PySem.W.mg_none_of X G z3, PySem.W.mg_none_of X G z4, PySem.W.mg_none_of X G z5, PySem.W.mg_none_of X G z6, PySem.W.mg_none_of X G z7, PySem.W.mg_none_of X G z8, PySem.W.mg_none_of X G z9, PySem.W.mg_none_of X G z10, PySem.W.mg_none_of X G z11, PySem.W.mg_none_of X G z12, PySem.W.mg_none_of X G z13⟩
  have SG : Sgn mg := ⟨_, PySem.W.mg_of X G zS, ⟨tk, by rw [eS]⟩⟩
  have TS : Sk K CS := ⟨⟨pgCS, hdCS, poCS, saCS⟩, nCS0⟩
  have TP : Pk K CP := ⟨⟨pgCP, hdCP, poCP, saCP⟩, nCP0, nCP1⟩
  have IC : C8.InsC K CP := ⟨TP.cl, ic1, ic2, ic3, ic4, if_pos (beq_self_eq_true _)⟩
  have hP : ∃ u, mg "Paper" = some u ∧ RelV (.ref CP) u := ⟨_, PySem.W.mg_of X G aCP, rfl⟩
  have D1 : Df K mg "is_whole" "is_whole" (top 8) ["thing"] := df_mk X G a1 l1 c1 k1 (fun _ _ _ _ _ _ us hl => match us, hl with | [_], _ => rfl)
  have D2 : Df K mg "is_text" "is_text" (top 9) ["thing"] := df_mk X G a2 l2 c2 k2 (fun _ _ _ _ _ _ us hl => match us, hl with | [_], _ => rfl)
  have D3 : Df K mg "need_text" "need_text" (top 10) ["thing"] := df_mk X G a3 l3 c3 k3 (fun _ _ _ _ _ _ us hl => match us, hl with | [_], _ => rfl)
  have D4 : Df K mg "is_part" "is_part" (top 12) ["thing"] := df_mk X G a4 l4 c4 k4 (fun _ _ _ _ _ _ us hl => match us, hl with | [_], _ => rfl)
  have D5 : Df K mg "need_change" "need_change" (top 13) ["change"] := df_mk X G a5 l5 c5 k5 (fun _ _ _ _ _ _ us hl => match us, hl with | [_], _ => rfl)
  have D6 : Df K mg "size_of_changes" "size_of" (top 14) ["thing"] := df_mk X G a6 l6 c6 k6 (fun _ _ _ _ _ _ us hl => match us, hl with | [_], _ => rfl)
  have D7 : Df K mg "sizes" "sizes" (top 16) ["change"] := df_mk X G a7 l7 c7 k7 (fun _ _ _ _ _ _ us hl => match us, hl with | [_], _ => rfl)
  have D8 : Df K mg "height_of" "height_of" (top 18) ["node"] := df_mk X G a8 l8 c8 k8 (fun _ _ _ _ _ _ us hl => match us, hl with | [_], _ => rfl)
  have D9 : Df K mg "size_of_nodes" "size_of" (top 19) ["node"] := df_mk X G a9 l9 c9 k9 (fun _ _ _ _ _ _ us hl => match us, hl with | [_], _ => rfl)
  have D10 : Df K mg "ends_of" "ends_of" (top 21) ["node"] := df_mk X G a10 l10 c10 k10 (fun _ _ _ _ _ _ us hl => match us, hl with | [_], _ => rfl)
  have D11 : Df K mg "made" "made" (top 22) ["left", "piece", "right"] := df_mk X G a11 l11 c11 k11 (fun _ _ _ _ _ _ us hl => match us, hl with | [_, _, _], _ => rfl)
  have D12 : Df K mg "turned" "turned" (top 23) ["left", "piece", "right"] := df_mk X G a12 l12 c12 k12 (fun _ _ _ _ _ _ us hl => match us, hl with | [_, _, _], _ => rfl)
  have D13 : Df K mg "joined" "joined" (top 24) ["left", "piece", "right"] := df_mk X G a13 l13 c13 k13 (fun _ _ _ _ _ _ us hl => match us, hl with | [_, _, _], _ => rfl)
  have D14 : Df K mg "last_off" "last_off" (top 25) ["node"] := df_mk X G a14 l14 c14 k14 (fun _ _ _ _ _ _ us hl => match us, hl with | [_], _ => rfl)
  have D15 : Df K mg "first_off" "first_off" (top 26) ["node"] := df_mk X G a15 l15 c15 k15 (fun _ _ _ _ _ _ us hl => match us, hl with | [_], _ => rfl)
  have D16 : Df K mg "met" "met" (top 27) ["left", "right"] := df_mk X G a16 l16 c16 k16 (fun _ _ _ _ _ _ us hl => match us, hl with | [_, _], _ => rfl)
  have D17 : Df K mg "piece_cut" "piece_cut" (top 28) ["piece", "at", "stock"] := df_mk X G a17 l17 c17 k17 (fun _ _ _ _ _ _ us hl => match us, hl with | [_, _, _], _ => rfl)
  have D18 : Df K mg "parted" "parted" (top 29) ["node", "place", "stock"] := df_mk X G a18 l18 c18 k18 (fun _ _ _ _ _ _ us hl => match us, hl with | [_, _, _], _ => rfl)
  have D19 : Df K mg "is_among" "is_among" (top 32) ["thing", "least", "most"] := df_mk X G a19 l19 c19 k19 (fun _ _ _ _ _ _ us hl => match us, hl with | [_, _, _], _ => rfl)
  have D20 : Df K mg "node_of" "node_of" (top 35) ["stock", "text"] := df_mk X G a20 l20 c20 k20 (fun _ _ _ _ _ _ us hl => match us, hl with | [_, _], _ => rfl)
  have D21 : Df K mg "sealed" "sealed" (top 36) ["left", "right"] := df_mk X G a21 l21 c21 k21 (fun _ _ _ _ _ _ us hl => match us, hl with | [_, _], _ => rfl)
  have D22 : Df K mg "part_of" "part_of" (top 37) ["node", "begin", "end", "stock"] := df_mk X G a22 l22 c22 k22 (fun _ _ _ _ _ _ us hl => match us, hl with | [_, _, _, _], _ => rfl)
  have D23 : Df K mg "ends_ahead" "ends_ahead" (top 38) ["node", "place", "stock"] := df_mk X G a23 l23 c23 k23 (fun _ _ _ _ _ _ us hl => match us, hl with | [_, _, _], _ => rfl)
  have D24 : Df K mg "end_place" "end_place" (top 39) ["node", "number", "stock"] := df_mk X G a24 l24 c24 k24 (fun _ _ _ _ _ _ us hl => match us, hl with | [_, _, _], _ => rfl)
  have D25 : Df K mg "need_cuts" "need_cuts" (top 40) ["paper", "change"] := df_mk X G a25 l25 c25 k25 (fun _ _ _ _ _ _ us hl => match us, hl with | [_, _], _ => rfl)
  have D26 : Df K mg "paper_of" "paper_of" (top 42) ["text"] := df_mk X G a26 l26 c26 k26 (fun _ _ _ _ _ _ us hl => match us, hl with | [_], _ => rfl)
  have D27 : Df K mg "_law_cell_at" "_law_cell_at" (top 44) ["_law_script", "_law_k"] := df_mk X G a27 l27 c27 k27 (fun _ _ _ _ _ _ us hl => match us, hl with | [_, _], _ => rfl)
  have D28 : Df K mg "_law_whole" "_law_whole" (top 45) ["_law_found"] := df_mk X G a28 l28 c28 k28 (fun _ _ _ _ _ _ us hl => match us, hl with | [_], _ => rfl)
  have D29 : Df K mg "_law_mixed" "_law_mixed" (top 46) ["_law_cell", "_law_k"] := df_mk X G a29 l29 c29 k29 (fun _ _ _ _ _ _ us hl => match us, hl with | [_, _], _ => rfl)
  have D30 : Df K mg "_law_text_by" "_law_text_by" (top 47) ["_law_cell", "_law_many"] := df_mk X G a30 l30 c30 k30 (fun _ _ _ _ _ _ us hl => match us, hl with | [_, _], _ => rfl)
  have D31 : Df K mg "_law_neat" "_law_neat" (top 48) ["_law_parts"] := df_mk X G a31 l31 c31 k31 (fun _ _ _ _ _ _ us hl => match us, hl with | [_], _ => rfl)
  have D32 : Df K mg "_law_change_by" "_law_change_by" (top 49) ["_law_cell", "_law_text"] := df_mk X G a32 l32 c32 k32 (fun _ _ _ _ _ _ us hl => match us, hl with | [_, _], _ => rfl)
  have D33 : Df K mg "_law_done" "_law_done" (top 50) ["_law_text", "_law_change"] := df_mk X G a33 l33 c33 k33 (fun _ _ _ _ _ _ us hl => match us, hl with | [_, _], _ => rfl)
  have D34 : Df K mg "_law_pair" "_law_pair" (top 51) ["_law_found", "_law_line_here", "_law_column"] := df_mk X G a34 l34 c34 k34 (fun _ _ _ _ _ _ us hl => match us, hl with | [_, _, _], _ => rfl)
  have D35 : Df K mg "_law_line" "_law_line" (top 52) ["_law_paper", "_law_line_here", "_law_begin", "_law_size", "_law_column"] := df_mk X G a35 l35 c35 k35 (fun _ _ _ _ _ _ us hl => match us, hl with | [_, _, _, _, _], _ => rfl)
  have D37 : Nf K mg CS "Stock" "Stock.__init__" (inC 33 0) ["self"] := nf_mk X G aCS mkCS kcCS a37 i37 l37 c37 (fun _ _ _ _ _ _ us hl => match us, hl with | [_], _ => rfl)
  have D38 : Mf K CS "put" "Stock.put" (inC 33 2) ["self", "text"] := mf_mk TS.cl a38 i38 l38 c38 k38 (fun _ _ _ _ _ _ us hl => match us, hl with | [_, _], _ => rfl)
  have D39 : Mf K CS "read" "Stock.read" (inC 33 3) ["self", "begin", "size"] := mf_mk TS.cl a39 i39 l39 c39 k39 (fun _ _ _ _ _ _ us hl => match us, hl with | [_, _, _], _ => rfl)
  have D40 : Nf K mg CP "Paper" "Paper.__init__" (inC 41 0) ["self", "stock", "node"] := nf_mk X G aCP mkCP kcCP a40 i40 l40 c40 (fun _ _ _ _ _ _ us hl => match us, hl with | [_, _, _], _ => rfl)
  have D41 : Mf K CP "size" "Paper.size" (inC 41 1) ["self"] := mf_mk TP.cl a41 i41 l41 c41 k41 (fun _ _ _ _ _ _ us hl => match us, hl with | [_], _ => rfl)
  have D42 : Mf K CP "lines" "Paper.lines" (inC 41 2) ["self"] := mf_mk TP.cl a42 i42 l42 c42 k42 (fun _ _ _ _ _ _ us hl => match us, hl with | [_], _ => rfl)
  have D43 : Mf K CP "part" "Paper.part" (inC 41 6) ["self", "begin", "end"] := mf_mk TP.cl a43 i43 l43 c43 k43 (fun _ _ _ _ _ _ us hl => match us, hl with | [_, _, _], _ => rfl)
  have D44 : Mf K CP "changed" "Paper.changed" (inC 41 7) ["self", "change"] := mf_mk TP.cl a44 i44 l44 c44 k44 (fun _ _ _ _ _ _ us hl => match us, hl with | [_, _], _ => rfl)
  have D45 : Mf K CP "line_begin" "Paper.line_begin" (inC 41 8) ["self", "line"] := mf_mk TP.cl a45 i45 l45 c45 k45 (fun _ _ _ _ _ _ us hl => match us, hl with | [_, _], _ => rfl)
  have D46 : Mf K CP "line_size" "Paper.line_size" (inC 41 9) ["self", "line"] := mf_mk TP.cl a46 i46 l46 c46 k46 (fun _ _ _ _ _ _ us hl => match us, hl with | [_, _], _ => rfl)
  have D47 : Mf K CP "line_at" "Paper.line_at" (inC 41 10) ["self", "place"] := mf_mk TP.cl a47 i47 l47 c47 k47 (fun _ _ _ _ _ _ us hl => match us, hl with | [_, _], _ => rfl)
  have D48 : Mf K CP "place_at" "Paper.place_at" (inC 41 11) ["self", "line", "column"] := mf_mk TP.cl a48 i48 l48 c48 k48 (fun _ _ _ _ _ _ us hl => match us, hl with | [_, _, _], _ => rfl)
  have FL : C8.Fun K "law" "law" (top 53) fa _ := ⟨⟨oc36, od36, .none, kV36, dc36, pm36, an36, cd36, ct36, sl36, rfl, l36, c36⟩⟩
  refine ⟨PySem.W.fnOf "law" "law" (C8.fnArgs (top 53)) (C8.fnBody (top 53)) (C8.fnScope (top 53)) .none kV36 dc36 pm36 an36 cd36 ct36, fun s v => .of_eq rfl, fun base _ _ => ?_⟩
  have gWhole : C8.Cal l.prog w K mg base 1 "is_whole" spWhole [] := ok_whole D1 B
  have gText : C8.Cal l.prog w K mg base 1 "is_text" spIsText [] := ok_isText D2 B SG
  have gNeedText : C8.Cal l.prog w K mg base 2 "need_text" spNeedText [] := ok_needText D3 gText
  have gPart : C8.Cal l.prog w K mg base 2 "is_part" spIsPart [] := ok_isPart D4 B gWhole gText
  have gNeedChange : C8.Cal l.prog w K mg base 3 "need_change" spNeedChange [] := ok_needChange D5 B gPart
  have gPsz : C8.Cal l.prog w K mg base 1 "size_of_changes" spPsz [] := ok_psz D6 B
  have gSizes : C8.Cal l.prog w K mg base 4 "sizes" spSizes [] := ok_sizes D7 B gNeedChange gPsz
  have gH : C8.Cal l.prog w K mg base 1 "height_of" (spGet Tr.ht) [] := ok_height D8
  have gS : C8.Cal l.prog w K mg base 1 "size_of_nodes" (spGet Tr.sz) [] := ok_size D9
  have gE : C8.Cal l.prog w K mg base 1 "ends_of" (spGet Tr.en) [] := ok_ends D10
  have gMade : C8.Cal l.prog w K mg base 2 "made" spMade [] := ok_made D11 B gH gS gE
  have gTurned : C8.Cal l.prog w K mg base 3 "turned" spTurned [] := ok_turned D12 gH gMade
  have gJoined : C8.Cal l.prog w K mg base (100 + 4) "joined" (spJoined 100) [] := ok_joined D13 gH gMade gTurned 100
  have gLast : C8.Cal l.prog w K mg base (100 + 4) "last_off" (spLast 100) [] := ok_last D14 gTurned 100
  have gFirst : C8.Cal l.prog w K mg base (100 + 4) "first_off" (spFirst 100) [] := ok_first D15 gTurned 100
  have gMet : C8.Cal l.prog w K mg base (100 + 5) "met" (spMet 100) [] := ok_met D16 gLast gJoined
  have gAmong : C8.Cal l.prog w K mg base 1 "is_among" spAmong [] := ok_among D19 B
  have gRead : C8.Met l.prog w K mg base 2 CS "read" (spRead CS) [] := ok_read D39 TS B gAmong
  have gPut : C8.Met l.prog w K mg base 3 CS "put" (spPut CS) [] := ok_put D38 TS B gNeedText
  have gCut : C8.Cal l.prog w K mg base 3 "piece_cut" (spCut CS) [] := ok_cut D17 gRead
  have gParted : C8.Cal l.prog w K mg base (100 + 5 + 100) "parted" (spParted CS 100) [] := ok_parted D18 gS gJoined gCut 100 (Nat.le_refl _)
  have gNodeOf : C8.Cal l.prog w K mg base (100 + 5) "node_of" (spNodeOf CS) [] := ok_nodeOf D20 B gJoined gPut
  have gSealed : C8.Cal l.prog w K mg base (100 + 6) "sealed" (spSealed 100) [] := ok_sealed D21 gMet gLast gFirst gJoined
  have gPartOf : C8.Cal l.prog w K mg base (100 + 3) "part_of" (spPartOf CS 100) [] := ok_partOf D22 B gS gRead 100
  have gEndsA : C8.Cal l.prog w K mg base (100 + 3) "ends_ahead" (spEndsA CS 100) [] := ok_endsA D23 gS gE gRead 100
  have gEndP : C8.Cal l.prog w K mg base (100 + 3) "end_place" (spEndP CS 100) [] := ok_endP D24 B gS gE gRead 100
  have gSize : C8.Met l.prog w K mg base 2 CP "size" (spSize CP CS) [] := ok_psize D41 TP gS
  have gLines : C8.Met l.prog w K mg base 2 CP "lines" (spLines CP CS) [] := ok_plines D42 TP gE
  have gPPart : C8.Met l.prog w K mg base (100 + 4) CP "part" (spPart CP CS 100) [] := ok_part D43 TP gAmong gSize gPartOf
  have gNeedCuts : C8.Cal l.prog w K mg base (100 + 5) "need_cuts" (spNeedCuts CP CS 100) [] := ok_needCuts D25 TP B gSizes gSize gPPart
  have gMake : C8.Mak l.prog w K mg base 1 "Paper" CP (spPInit CP) [] := ok_pinit D40 TP
  have gChanged : C8.Met l.prog w K mg base (100 + 6 + 100 + 1) CP "changed" (spChanged CP CS 100) [] := ok_changed D44 TP B gNeedChange gNeedCuts gNodeOf gSealed gParted gMake
  have gBegin : C8.Met l.prog w K mg base (100 + 4) CP "line_begin" (spLineBegin CP CS 100) [] := ok_lineBegin D45 TP gAmong gLines gEndP
  have gLSize : C8.Met l.prog w K mg base (100 + 5) CP "line_size" (spLineSize CP CS 100) [] := ok_lineSize D46 TP gBegin gLines gSize gEndP
  have gLAt : C8.Met l.prog w K mg base (100 + 5) CP "line_at" (spLineAt CP CS 100) [] := ok_lineAt D47 TP gAmong gSize gEndsA gBegin
  have gPAt : C8.Met l.prog w K mg base (100 + 6) CP "place_at" (spPlaceAt CP CS 100) [] := ok_placeAt D48 TP gAmong gBegin gLSize
  have gPaperOf : C8.Cal l.prog w K mg base (100 + 6) "paper_of" (spPaperOf CP CS) [] := ok_paperOf D26 gNeedText D37 TS gMake gNodeOf
  have gCell : C8.Cal l.prog w K mg base 1 "_law_cell_at" (spCell K) [] := ok_cell D27 B
  have gLWhole : C8.Cal l.prog w K mg base 1 "_law_whole" spWhole [] := ok_lwhole D28 B
  have gMixed : C8.Cal l.prog w K mg base 1 "_law_mixed" spMixed [] := ok_mixed D29
  have gTextBy : C8.Cal l.prog w K mg base 2 "_law_text_by" spTextBy [] := ok_textBy D30 B gMixed
  have gNeat : C8.Cal l.prog w K mg base 1 "_law_neat" spNeat [] := ok_neat D31 B
  have gChangeBy : C8.Cal l.prog w K mg base 3 "_law_change_by" spChangeBy [] := ok_changeBy D32 B gMixed gTextBy gNeat
  have gDone : C8.Cal l.prog w K mg base 1 "_law_done" spDone [] := ok_done D33 B
  have gPair : C8.Cal l.prog w K mg base 2 "_law_pair" spPair [] := ok_pair D34 B gLWhole
  have gLine : C8.Cal l.prog w K mg base (100 + 7) "_law_line" (spLine CP CS 100) [] := ok_line D35 gLWhole gLSize gPAt
  exact ok_law FL B IC hP gCell gTextBy gPaperOf gMixed gChangeBy gChanged gDone gLines gLine gPair gLAt gPAt
theorem walk {l : PySem.W.OpenLaw} {q : Program} {loose : List Str} {XP : (Str → Option Value) → Heap → Prop} {YP : World → Heap → Prop} {d : DefRec} {K : Params → PySem.W.Frag} (hn : l.most = some 63) (hdf : d.params.defaults = [])
    (hY : ∀ (w : World) (h : Heap), YP w h → (K w.params).In h)
    (F : ∀ (w : World) (mg : Str → Option Value) (fa : Addr) (h : Heap), (K w.params).In h → h.Ns mainGlobals mg → mg d.name = some (.ref fa) →
      ∃ fd : FuncData, (∀ (s : Shared) (u : Value), BindsTo s fd ⟨[u], []⟩ [("_law_script", u)]) ∧ ∀ base : Heap, (K w.params).In base → base.Ns mainGlobals mg → FnOk l.prog w (K w.params) mg base C8.CX0 208 fa fd ["_law_script"] (spLaw (K w.params))) :
    PySem.W.WalkO q loose XP YP l.row.toRowW d [] (fun f vs => PySem.call f vs) :=
  L2.walk_of (n := 63) (k := 208) (x := "_law_script") (CX := fun _ => C8.CX0) (sp := fun w => spLaw (K w.params)) hn (by decide) hdf ⟨rfl, by decide, by decide⟩ hY F (fun _ _ a ns hl _ hS => ⟨a, ns, rfl, hS, hl, fun _ => rfl⟩) fun _ _ _ _ _ z => z
end Ink
end
open PySem PySem.W PyProof.Rows
set_option maxRecDepth 100000 in
set_option maxHeartbeats 0 in
theorem PySem.Challenge.cw_inkloom_k16_lines_and_places_holds : PySem.Challenge.rw_inkloom_k16_lines_and_places.Holds := by
  w_on; o_law; k_head; (case hw => w_witness2)
  k_fill
  refine Ink.walk (l := PySem.Challenge.rw_inkloom_k16_lines_and_places) rfl rfl (fun w h Y => PySem.W.kIn_of Y) ?F
  case F =>
    intro w mg fa h KX G hmg
    refine' Ink.all_mk KX G hmg ?a1 ?l1 ?c1 ?k1 ?a2 ?l2 ?c2 ?k2 ?a3 ?l3 ?c3 ?k3 ?a4 ?l4 ?c4 ?k4 ?a5 ?l5 ?c5 ?k5 ?a6 ?l6 ?c6 ?k6 ?a7 ?l7 ?c7 ?k7 ?a8 ?l8 ?c8 ?k8 ?a9 ?l9 ?c9 ?k9 ?a10 ?l10 ?c10 ?k10 ?a11 ?l11 ?c11 ?k11 ?a12 ?l12 ?c12 ?k12 ?a13 ?l13 ?c13 ?k13 ?a14 ?l14 ?c14 ?k14 ?a15 ?l15 ?c15 ?k15 ?a16 ?l16 ?c16 ?k16 ?a17 ?l17 ?c17 ?k17 ?a18 ?l18 ?c18 ?k18 ?a19 ?l19 ?c19 ?k19 ?a20 ?l20 ?c20 ?k20 ?a21 ?l21 ?c21 ?k21 ?a22 ?l22 ?c22 ?k22 ?a23 ?l23 ?c23 ?k23 ?a24 ?l24 ?c24 ?k24 ?a25 ?l25 ?c25 ?k25 ?a26 ?l26 ?c26 ?k26 ?a27 ?l27 ?c27 ?k27 ?a28 ?l28 ?c28 ?k28 ?a29 ?l29 ?c29 ?k29 ?a30 ?l30 ?c30 ?k30 ?a31 ?l31 ?c31 ?k31 ?a32 ?l32 ?c32 ?k32 ?a33 ?l33 ?c33 ?k33 ?a34 ?l34 ?c34 ?k34 ?a35 ?l35 ?c35 ?k35 ?a36 ?l36 ?c36 ?k36 ?aCS ?pgCS ?hdCS ?poCS ?saCS ?mkCS ?kcCS ?nCS0 ?aCP ?pgCP ?hdCP ?poCP ?saCP ?mkCP ?kcCP ?nCP0 ?nCP1 ?ic1 ?ic2 ?ic3 ?ic4 ?a37 ?i37 ?l37 ?c37 ?k37 ?a38 ?i38 ?l38 ?c38 ?k38 ?a39 ?i39 ?l39 ?c39 ?k39 ?a40 ?i40 ?l40 ?c40 ?k40 ?a41 ?i41 ?l41 ?c41 ?k41 ?a42 ?i42 ?l42 ?c42 ?k42 ?a43 ?i43 ?l43 ?c43 ?k43 ?a44 ?i44 ?l44 ?c44 ?k44 ?a45 ?i45 ?l45 ?c45 ?k45 ?a46 ?i46 ?l46 ?c46 ?k46 ?a47 ?i47 ?l47 ?c47 ?k47 ?a48 ?i48 ?l48 ?c48 ?k48 ?z1 ?z2 ?z3 ?z4 ?z5 ?z6 ?z7 ?z8 ?z9 ?z10 ?z11 ?z12 ?z13 ?zS ?eS
    (case a1 => k_is)
    (case l1 => k_is)
    (case c1 => k_is)
    (case k1 => k_is)
    (case a2 => k_is)
    (case l2 => k_is)
    (case c2 => k_is)
    (case k2 => k_is)
    (case a3 => k_is)
    (case l3 => k_is)
    (case c3 => k_is)
    (case k3 => k_is)
    (case a4 => k_is)
    (case l4 => k_is)
    (case c4 => k_is)
    (case k4 => k_is)
    (case a5 => k_is)
    (case l5 => k_is)
    (case c5 => k_is)
    (case k5 => k_is)
    (case a6 => k_is)
    (case l6 => k_is)
    (case c6 => k_is)
    (case k6 => k_is)
    (case a7 => k_is)
    (case l7 => k_is)
    (case c7 => k_is)
    (case k7 => k_is)
    (case a8 => k_is)
    (case l8 => k_is)
    (case c8 => k_is)
    (case k8 => k_is)
    (case a9 => k_is)
    (case l9 => k_is)
    (case c9 => k_is)
    (case k9 => k_is)
    (case a10 => k_is)
    (case l10 => k_is)
    (case c10 => k_is)
    (case k10 => k_is)
    (case a11 => k_is)
    (case l11 => k_is)
    (case c11 => k_is)
    (case k11 => k_is)
    (case a12 => k_is)
    (case l12 => k_is)
    (case c12 => k_is)
    (case k12 => k_is)
    (case a13 => k_is)
    (case l13 => k_is)
    (case c13 => k_is)
    (case k13 => k_is)
    (case a14 => k_is)
    (case l14 => k_is)
    (case c14 => k_is)
    (case k14 => k_is)
    (case a15 => k_is)
    (case l15 => k_is)
    (case c15 => k_is)
    (case k15 => k_is)
    (case a16 => k_is)
    (case l16 => k_is)
    (case c16 => k_is)
    (case k16 => k_is)
    (case a17 => k_is)
    (case l17 => k_is)
    (case c17 => k_is)
    (case k17 => k_is)
    (case a18 => k_is)
    (case l18 => k_is)
    (case c18 => k_is)
    (case k18 => k_is)
    (case a19 => k_is)
    (case l19 => k_is)
    (case c19 => k_is)
    (case k19 => k_is)
    (case a20 => k_is)
    (case l20 => k_is)
    (case c20 => k_is)
    (case k20 => k_is)
    (case a21 => k_is)
    (case l21 => k_is)
    (case c21 => k_is)
    (case k21 => k_is)
    (case a22 => k_is)
    (case l22 => k_is)
    (case c22 => k_is)
    (case k22 => k_is)
    (case a23 => k_is)
    (case l23 => k_is)
    (case c23 => k_is)
    (case k23 => k_is)
    (case a24 => k_is)
    (case l24 => k_is)
    (case c24 => k_is)
    (case k24 => k_is)
    (case a25 => k_is)
    (case l25 => k_is)
    (case c25 => k_is)
    (case k25 => k_is)
    (case a26 => k_is)
    (case l26 => k_is)
    (case c26 => k_is)
    (case k26 => k_is)
    (case a27 => k_is)
    (case l27 => k_is)
    (case c27 => k_is)
    (case k27 => k_is)
    (case a28 => k_is)
    (case l28 => k_is)
    (case c28 => k_is)
    (case k28 => k_is)
    (case a29 => k_is)
    (case l29 => k_is)
    (case c29 => k_is)
    (case k29 => k_is)
    (case a30 => k_is)
    (case l30 => k_is)
    (case c30 => k_is)
    (case k30 => k_is)
    (case a31 => k_is)
    (case l31 => k_is)
    (case c31 => k_is)
    (case k31 => k_is)
    (case a32 => k_is)
    (case l32 => k_is)
    (case c32 => k_is)
    (case k32 => k_is)
    (case a33 => k_is)
    (case l33 => k_is)
    (case c33 => k_is)
    (case k33 => k_is)
    (case a34 => k_is)
    (case l34 => k_is)
    (case c34 => k_is)
    (case k34 => k_is)
    (case a35 => k_is)
    (case l35 => k_is)
    (case c35 => k_is)
    (case k35 => k_is)
    (case a36 => k_is)
    (case l36 => k_is)
    (case c36 => k_is)
    (case k36 => k_is)
    (case aCS => k_is)
    (case pgCS => k_is)
    (case hdCS => k_is)
    (case poCS => k_is)
    (case saCS => k_is)
    (case mkCS => k_is)
    (case kcCS => k_is)
    (case nCS0 => k_is)
    (case aCP => k_is)
    (case pgCP => k_is)
    (case hdCP => k_is)
    (case poCP => k_is)
    (case saCP => k_is)
    (case mkCP => k_is)
    (case kcCP => k_is)
    (case nCP0 => k_is)
    (case nCP1 => k_is)
    (case ic1 => k_is)
    (case ic2 => k_is)
    (case ic3 => k_is)
    (case ic4 => k_is)
    (case a37 => k_is)
    (case i37 => k_is)
    (case l37 => k_is)
    (case c37 => k_is)
    (case k37 => k_is)
    (case a38 => k_is)
    (case i38 => k_is)
    (case l38 => k_is)
    (case c38 => k_is)
    (case k38 => k_is)
    (case a39 => k_is)
    (case i39 => k_is)
    (case l39 => k_is)
    (case c39 => k_is)
    (case k39 => k_is)
    (case a40 => k_is)
    (case i40 => k_is)
    (case l40 => k_is)
    (case c40 => k_is)
    (case k40 => k_is)
    (case a41 => k_is)
    (case i41 => k_is)
    (case l41 => k_is)
    (case c41 => k_is)
    (case k41 => k_is)
    (case a42 => k_is)
    (case i42 => k_is)
    (case l42 => k_is)
    (case c42 => k_is)
    (case k42 => k_is)
    (case a43 => k_is)
    (case i43 => k_is)
    (case l43 => k_is)
    (case c43 => k_is)
    (case k43 => k_is)
    (case a44 => k_is)
    (case i44 => k_is)
    (case l44 => k_is)
    (case c44 => k_is)
    (case k44 => k_is)
    (case a45 => k_is)
    (case i45 => k_is)
    (case l45 => k_is)
    (case c45 => k_is)
    (case k45 => k_is)
    (case a46 => k_is)
    (case i46 => k_is)
    (case l46 => k_is)
    (case c46 => k_is)
    (case k46 => k_is)
    (case a47 => k_is)
    (case i47 => k_is)
    (case l47 => k_is)
    (case c47 => k_is)
    (case k47 => k_is)
    (case a48 => k_is)
    (case i48 => k_is)
    (case l48 => k_is)
    (case c48 => k_is)
    (case k48 => k_is)
    (case z1 => k_is)
    (case z2 => k_is)
    (case z3 => k_is)
    (case z4 => k_is)
    (case z5 => k_is)
    (case z6 => k_is)
    (case z7 => k_is)
    (case z8 => k_is)
    (case z9 => k_is)
    (case z10 => k_is)
    (case z11 => k_is)
    (case z12 => k_is)
    (case z13 => k_is)
    (case zS => k_is)
    (case eS => decide +kernel)
