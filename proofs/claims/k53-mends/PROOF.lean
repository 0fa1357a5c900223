import PyProof.Rows.All
import Wide.All
import OpenK.AllK
import Wide.FinOn
import HandS.ForMost
import HandS.Walk
import KE.GoesNew
import HandS.Style
import KE.DataMinMax
import KE.SortData
import KE.KRevSl
import HandS.Set
import HandS.SetFor
import HandS.Strs
import PyProof.Rows.SortShellAny
import HandS.IsInst
import PySem.Challenge.RW_palbuilds_k53_whole_mends
set_option Elab.async false
set_option linter.all false
set_option autoImplicit false
set_option maxRecDepth 100000
set_option maxHeartbeats 4100000
/-! the mathematics: longest mirrors that are left, the least of them, changed letters -/
namespace Pm
abbrev pal (p : List Nat) : Prop := p.reverse = p
theorem pal_ends {a b : Nat} {r : List Nat} (h : pal (a :: (r ++ [b]))) : a = b ∧ pal r := by
  unfold pal at h ⊢
  rw [List.reverse_cons, List.reverse_append] at h
  simp only [List.reverse_cons, List.reverse_nil, List.nil_append, List.cons_append] at h
  injection h with h1 h2
  refine ⟨h1.symm, ?_⟩
  have := List.append_inj_left' h2 (by simp)
  exact this
theorem pal_wrap {a : Nat} {r : List Nat} (h : pal r) : pal (a :: (r ++ [a])) := by
  unfold pal at h ⊢
  simp [h]
theorem sub_snoc {p m : List Nat} {b : Nat} : p.Sublist (m ++ [b]) ↔ p.Sublist m ∨ ∃ r, p = r ++ [b] ∧ r.Sublist m := by
  constructor
  · intro h
    obtain ⟨x, y, rfl, h1, h2⟩ := List.sublist_append_iff.mp h
    cases h2 with
    | cons _ h2 =>
      cases h2
      left
      simpa using h1
    | cons_cons _ h2 =>
      cases h2
      exact .inr ⟨x, rfl, h1⟩
  · rintro (h | ⟨r, rfl, h⟩)
    · exact h.trans (List.sublist_append_left _ _)
    · exact h.append (List.Sublist.refl _)
theorem sub_cons {p m : List Nat} {a : Nat} : p.Sublist (a :: m) ↔ p.Sublist m ∨ ∃ r, p = a :: r ∧ r.Sublist m := by
  constructor
  · intro h
    cases h with
    | cons _ h => exact .inl h
    | cons_cons _ h => exact .inr ⟨_, rfl, h⟩
  · rintro (h | ⟨r, rfl, h⟩)
    · exact h.cons a
    · exact h.cons_cons a
/-- unlike ends: a mirror that is left does without one of them -/
theorem left_unlike {a b : Nat} {m p : List Nat} (ne : a ≠ b) (h : p.Sublist (a :: (m ++ [b]))) (hp : pal p) : p.Sublist (m ++ [b]) ∨ p.Sublist (a :: m) := by
  rcases sub_cons.mp h with h1 | ⟨r, rfl, h1⟩
  · exact .inl h1
  · rcases sub_snoc.mp h1 with h2 | ⟨q, rfl, h2⟩
    · exact .inr (h2.cons_cons a)
    · exact absurd (pal_ends hp).1 ne
theorem snoc_cases (p : List Nat) : p = [] ∨ ∃ r b, p = r ++ [b] := by
  rcases List.eq_nil_or_concat p with h | ⟨r, b, h⟩
  · exact .inl h
  · exact .inr ⟨r, b, by simpa using h⟩
/-- like ends: within a mirror that is left stands one of the inner piece, shorter by at most two -/
theorem left_like {a : Nat} {m p : List Nat} (h : p.Sublist (a :: (m ++ [a]))) (hp : pal p) :
    ∃ q, q.Sublist m ∧ pal q ∧ p.length ≤ q.length + 2 ∧ (p.length = q.length + 2 → p = a :: (q ++ [a])) := by
  have one : ∀ p : List Nat, p.length ≤ 1 → ∃ q : List Nat, q.Sublist m ∧ pal q ∧ p.length ≤ q.length + 2 ∧ (p.length = q.length + 2 → p = a :: (q ++ [a])) := fun p h =>
    ⟨[], List.nil_sublist m, rfl, by omega, fun e => by simp at e; omega⟩
  have two : ∀ r : List Nat, r.Sublist m → pal (a :: (r ++ [a])) → ∃ q : List Nat, q.Sublist m ∧ pal q ∧ (a :: (r ++ [a])).length ≤ q.length + 2 ∧ ((a :: (r ++ [a])).length = q.length + 2 → (a :: (r ++ [a])) = a :: (q ++ [a])) := fun r h hp =>
    ⟨r, h, (pal_ends hp).2, by simp, fun _ => rfl⟩
  rcases sub_cons.mp h with h1 | ⟨r, rfl, h1⟩
  · rcases sub_snoc.mp h1 with h2 | ⟨r, rfl, h2⟩
    · exact ⟨p, h2, hp, by omega, fun e => by omega⟩
    · cases r with
      | nil => exact one _ (by simp)
      | cons b r =>
        have hp' : pal (b :: (r ++ [a])) := hp
        have e := (pal_ends hp').1
        subst e
        exact two r ((List.sublist_cons_self _ _).trans h2) hp'
  · rcases sub_snoc.mp h1 with h2 | ⟨q, rfl, h2⟩
    · rcases snoc_cases r with rfl | ⟨q, b, rfl⟩
      · exact one _ (by simp)
      · have e := (pal_ends hp).1
        subst e
        exact two q ((List.sublist_append_left _ _).trans h2) hp
    · exact two q h2 hp
/-! ### the two readings -/
section
variable (l : List Nat)
/-- the greatest length of a mirror that is left of the k letters from s on -/
def lps : Nat → Nat → Nat
  | 0, _ => 0
  | 1, _ => 1
  | k + 2, s => if l.getD s 0 = l.getD (s + k + 1) 0 then lps k (s + 1) + 2 else max (lps (k + 1) (s + 1)) (lps (k + 1) s)
def pickMin (a b : List Nat) : List Nat := if b < a then b else a
/-- the least of the longest ones -/
def least : Nat → Nat → List Nat
  | 0, _ => []
  | 1, s => [l.getD s 0]
  | k + 2, s => if l.getD s 0 = l.getD (s + k + 1) 0 then l.getD s 0 :: (least k (s + 1) ++ [l.getD s 0]) else
      if lps l (k + 1) (s + 1) = lps l (k + 2) s then
        if lps l (k + 1) s = lps l (k + 2) s then pickMin (least (k + 1) (s + 1)) (least (k + 1) s) else least (k + 1) (s + 1)
      else least (k + 1) s
end
/-- p is a longest mirror left of w, of n letters, and none of them is less -/
structure Best (w : List Nat) (n : Nat) (p : List Nat) : Prop where
  sub : p.Sublist w
  mir : pal p
  len : p.length = n
  top : ∀ q : List Nat, q.Sublist w → pal q → q.length ≤ n
  low : ∀ q : List Nat, q.Sublist w → pal q → q.length = n → ¬ q < p
theorem lt_irr (a : List Nat) : ¬ a < a := List.lt_irrefl a
theorem eq_of_not_lt {a b : List Nat} (h1 : ¬ a < b) (h2 : ¬ b < a) : a = b := List.le_antisymm (List.not_lt.mp h2) (List.not_lt.mp h1)
theorem lt_of_snoc : ∀ {q r x : List Nat}, q.length = r.length → q ++ x < r ++ x → q < r
  | [], [], x, _, h => absurd h (lt_irr _)
  | a :: q, b :: r, x, e, h => by
    rw [List.cons_append, List.cons_append, List.cons_lt_cons_iff] at h
    rw [List.cons_lt_cons_iff]
    rcases h with h | ⟨h1, h2⟩
    · exact .inl h
    · exact .inr ⟨h1, lt_of_snoc (by simpa using e) h2⟩
  | [], b :: r, x, e, _ => by simp at e
  | a :: q, [], x, e, _ => by simp at e
theorem Best.uniq {w p q : List Nat} {n m : Nat} (h : Best w n p) (g : Best w m q) : n = m ∧ p = q := by
  have e : n = m := Nat.le_antisymm (h.len ▸ g.top p h.sub h.mir) (g.len ▸ h.top q g.sub g.mir)
  subst e
  exact ⟨rfl, eq_of_not_lt (g.low p h.sub h.mir h.len) (h.low q g.sub g.mir g.len)⟩
theorem best_nil : Best [] 0 [] := ⟨.refl _, rfl, rfl, fun q h _ => by simpa using h.length_le, fun q h _ _ => by
  cases h
  exact lt_irr _⟩
theorem best_one (a : Nat) : Best [a] 1 [a] := ⟨.refl _, rfl, rfl, fun q h _ => by simpa using h.length_le, fun q h _ e => by
  rcases sub_cons.mp h with h1 | ⟨r, rfl, h1⟩
  · have := h1.length_le
    simp at this
    rw [this] at e
    simp at e
  · have := h1.length_le
    simp at this
    rw [this]
    exact lt_irr _⟩
theorem best_like {a : Nat} {m p : List Nat} {n : Nat} (h : Best m n p) : Best (a :: (m ++ [a])) (n + 2) (a :: (p ++ [a])) where
  sub := (h.sub.append (.refl _)).cons_cons a
  mir := pal_wrap h.mir
  len := by simp [h.len]
  top q hq hp := by
    obtain ⟨r, h1, h2, h3, _⟩ := left_like hq hp
    have := h.top r h1 h2
    omega
  low q hq hp e lt := by
    obtain ⟨r, h1, h2, h3, h4⟩ := left_like hq hp
    have hr := h.top r h1 h2
    have er : r.length = n := by omega
    rw [h4 (by omega), List.cons_lt_cons_iff] at lt
    rcases lt with lt | ⟨_, lt⟩
    · exact absurd lt (Nat.lt_irrefl _)
    · exact h.low r h1 h2 er (lt_of_snoc (er.trans h.len.symm) lt)
/-- of two pieces that hold all mirrors between them -/
theorem best_two {w w1 w2 p1 p2 : List Nat} {n1 n2 : Nat} (h1 : Best w1 n1 p1) (h2 : Best w2 n2 p2) (s1 : w1.Sublist w) (s2 : w2.Sublist w)
    (all : ∀ q : List Nat, q.Sublist w → pal q → q.Sublist w1 ∨ q.Sublist w2) :
    Best w (max n1 n2) (if n1 = max n1 n2 then if n2 = max n1 n2 then pickMin p1 p2 else p1 else p2) := by
  have top : ∀ q : List Nat, q.Sublist w → pal q → q.length ≤ max n1 n2 := fun q hq hp => by
    rcases all q hq hp with h | h
    · have := h1.top q h hp; omega
    · have := h2.top q h hp; omega
  by_cases e1 : n1 = max n1 n2
  · by_cases e2 : n2 = max n1 n2
    · rw [if_pos e1, if_pos e2]
      unfold pickMin
      by_cases c : p2 < p1
      · rw [if_pos c]
        refine ⟨h2.sub.trans s2, h2.mir, h2.len.trans e2, top, fun q hq hp e lt => ?_⟩
        rcases all q hq hp with h | h
        · exact h1.low q h hp (e.trans e1.symm) (List.lt_trans lt c)
        · exact h2.low q h hp (e.trans e2.symm) lt
      · rw [if_neg c]
        refine ⟨h1.sub.trans s1, h1.mir, h1.len.trans e1, top, fun q hq hp e lt => ?_⟩
        rcases all q hq hp with h | h
        · exact h1.low q h hp (e.trans e1.symm) lt
        · refine h2.low q h hp (e.trans e2.symm) (List.not_le.mp fun le => ?_)
          exact absurd lt (List.not_lt.mpr (List.le_trans (List.not_lt.mp c) le))
    · rw [if_pos e1, if_neg e2]
      refine ⟨h1.sub.trans s1, h1.mir, h1.len.trans e1, top, fun q hq hp e lt => ?_⟩
      rcases all q hq hp with h | h
      · exact h1.low q h hp (e.trans e1.symm) lt
      · have := h2.top q h hp; omega
  · rw [if_neg e1]
    refine ⟨h2.sub.trans s2, h2.mir, by rw [h2.len]; omega, top, fun q hq hp e lt => ?_⟩
    rcases all q hq hp with h | h
    · have := h1.top q h hp; omega
    · exact h2.low q h hp (by omega) lt
/-- the k letters from s on -/
def cutL (l : List Nat) (k s : Nat) : List Nat := (l.drop s).take k
theorem cut_cons {l : List Nat} {k s : Nat} (h : s < l.length) : cutL l (k + 1) s = l.getD s 0 :: cutL l k (s + 1) := by
  unfold cutL
  rw [List.drop_eq_getElem_cons h, List.take_succ_cons, List.getD_eq_getElem?_getD, List.getElem?_eq_getElem h]
  rfl
theorem cut_snoc {l : List Nat} {k s : Nat} (h : s + k < l.length) : cutL l (k + 1) s = cutL l k s ++ [l.getD (s + k) 0] := by
  unfold cutL
  rw [List.take_add_one, List.getElem?_drop, List.getElem?_eq_getElem h, List.getD_eq_getElem?_getD, List.getElem?_eq_getElem h]
  rfl
theorem best_dp (l : List Nat) : ∀ k s : Nat, s + k ≤ l.length → Best (cutL l k s) (lps l k s) (least l k s)
  | 0, s, _ => by
    show Best (cutL l 0 s) 0 []
    have : cutL l 0 s = [] := by unfold cutL; simp
    rw [this]
    exact best_nil
  | 1, s, h => by
    rw [cut_cons (by omega)]
    have : cutL l 0 (s + 1) = [] := by unfold cutL; simp
    rw [this]
    exact best_one _
  | k + 2, s, h => by
    have e1 : cutL l (k + 2) s = l.getD s 0 :: (cutL l k (s + 1) ++ [l.getD (s + k + 1) 0]) := by
      rw [cut_cons (by omega), cut_snoc (by omega)]
      congr 4
      omega
    have e2 : cutL l (k + 1) (s + 1) = cutL l k (s + 1) ++ [l.getD (s + k + 1) 0] := by
      rw [cut_snoc (by omega)]
      congr 3
      omega
    have e3 : cutL l (k + 1) s = l.getD s 0 :: cutL l k (s + 1) := cut_cons (by omega)
    by_cases c : l.getD s 0 = l.getD (s + k + 1) 0
    · have ih := best_dp l k (s + 1) (by omega)
      rw [lps, least, if_pos c, if_pos c, e1, ← c]
      exact best_like ih
    · have i1 := best_dp l (k + 1) (s + 1) (by omega)
      have i2 := best_dp l (k + 1) s (by omega)
      have el : lps l (k + 2) s = max (lps l (k + 1) (s + 1)) (lps l (k + 1) s) := by rw [lps, if_neg c]
      rw [least, if_neg c, el]
      refine best_two i1 i2 ?_ ?_ fun q hq hp => ?_
      · rw [e1, e2]; exact List.sublist_cons_self _ _
      · rw [e1, e3]; exact (List.sublist_append_left _ _).cons_cons _
      · rw [e1] at hq
        rw [e2, e3]
        exact left_unlike c hq hp
theorem best_all (l : List Nat) : Best l (lps l l.length 0) (least l l.length 0) := by
  have := best_dp l l.length 0 (by omega)
  unfold cutL at this
  simpa using this
/-- one letter more leaves no less -/
theorem lps_more (l : List Nat) (a : Nat) : lps l l.length 0 ≤ lps (l ++ [a]) (l ++ [a]).length 0 := by
  have h := best_all l
  rw [← h.len]
  exact (best_all (l ++ [a])).top _ (h.sub.trans (List.sublist_append_left _ _)) h.mir
theorem lps_le (l : List Nat) : lps l l.length 0 ≤ l.length := by
  have h := best_all l
  rw [← h.len]
  exact h.sub.length_le
end Pm
/-! own rules: what is walked in new pairs, by the library's GoesN: enumerate(text), zip(text, text) -/
namespace Pm
open L2 PySem PySem.Spec PyProof.Rows
/-- n turns, each gives a new pair of which f tells -/
def ItP (n : Nat) (f : Nat → V → V → Prop) : It where
  go i _ := i < n
  yld i H v H' := ∃ T x y, v = .ref T ∧ H T = none ∧ H' = upd H T (.tup [x, y]) ∧ f i x y
  stop i _ := i = n
theorem walkP {n : Nat} {f : Nat → V → V → Prop} : Walk (ItP n f) n (fun _ => True) (fun i H v H' => ∃ T x y, v = .ref T ∧ H T = none ∧ H' = upd H T (.tup [x, y]) ∧ f i x y) where
  goes _ _ hi _ := hi
  stops _ _ := rfl
  yields _ _ _ _ _ _ y := y
abbrev YP (f : Nat → V → V → Prop) : Nat → Heap → Value → Heap → Prop := fun i old v now =>
  ∃ (T : Addr) (u1 u2 : Value), v = .ref T ∧ old.objs.size ≤ T ∧ now.IsTuple T #[u1, u2] ∧ ∃ x y, RelV x u1 ∧ RelV y u2 ∧ f i x y
theorem turnP {P : Program} {w : World} {K : PySem.W.Frag} {tg : Expr} {it : Addr} {fp wr : List Addr} {n : Nat} {f : Nat → V → V → Prop} {Sx : Nat → Heap → Prop}
    (W : ∀ A : Around, A.handled = none → GoesN P w A tg it fp wr n (YP f) Sx) (hit : it ∈ fp) (hob : ∀ i h, Sx i h → ∀ b ∈ fp, ∃ o, h.get? b = some o ∧ ∀ v, o.data ≠ .cell v)
    (hself : ∀ (A : Around) (i : Nat) (s : Shared) (Q E : Value → Shared → Prop), Sx i s.heap → Q (.ref it) s → wpAny (model P w) A (pyIter (.ref it)) Q E s) :
    Turn P w K tg (ItP n f) fp it Sx where
  mem := hit
  obj := hob
  keep i h h' st k := (W {} rfl).frame i h h' st k
  item := by
    rintro X rfl rfl rfl calm i pins s σ H E I free st (lt : i < n)
    have G := W X.A (I.ok.hd calm)
    refine G.goes i s _ E lt st fun v h' tk ⟨T, u1, u2, ev, big, tup, x, y, r1, r2, fy⟩ st' old _ => ?_
    subst ev
    have fresh : H T = none := I.hok.fresh big
    have pair : ObjOk X.prog X.w (upd H T (.tup [x, y])) h' T (.tup [x, y]) := ⟨by show 2 ≤ sizeLine; decide, [u1, u2], .cons r1 (.cons r2 .nil), tup⟩
    refine ⟨.ref T, _, I.turnedNew (t' := tk) (ch := fp) (fun b o nb e => old b o (fun z => nb (G.sub b z)) e) free big pair, rfl, ⟨T, x, y, rfl, fresh, rfl, fy⟩, st', fun b hb => ?_⟩
    obtain ⟨o, there, _⟩ := hob i s.heap st b hb
    have ne : b ≠ T := fun z => by
      subst z
      exact absurd (Heap.lt_size there) (Nat.not_lt.mpr big)
    rw [upd_ne ne]
    exact (free b hb).1
  done := by
    rintro X rfl rfl rfl calm i pins s σ H E I free st (en : i = n)
    subst en
    have G := W X.A (I.ok.hd calm)
    exact G.stops s _ E st fun h' tk old _ => I.turnedL (ch := fp) (fun b o nb e => old b o (fun z => nb (G.sub b z)) e) free
  self := hself
/-- the i-th signs of two texts -/
def pairS (x y : Str) (i : Nat) (a b : V) : Prop := ∃ c d, a = .str ⟨#[c]⟩ ∧ b = .str ⟨#[d]⟩ ∧ x.cps[i]? = some c ∧ y.cps[i]? = some d
/-- the place and the sign -/
def placeS (x : Str) (i : Nat) (a b : V) : Prop := ∃ c, a = .int (i : Nat) ∧ b = .str ⟨#[c]⟩ ∧ x.cps[i]? = some c

theorem turn_enumS {P : Program} {w : World} {K : PySem.W.Frag} {elts : List Expr} {kk : Nat} {tpos : Pos} (x : Str) (t : Tok) (e it : Addr) (ne : e ≠ it) :
    Turn P w K (.Tuple elts kk tpos) (ItP x.cps.size (placeS x)) [e, it] e (fun i h => (∃ old, IsEnum h e it (0 + (i : Int)) old) ∧ h.IsStrIter it (strIterType x) x t i) := by
  refine turnP (wr := [e, it]) (fun A hn => ?_) (by simp) (fun i h st b hb => ?_) fun A i s Q E st q => ?_
  · refine (GoesN.enumFrom 0 (Draws.text (A := A.in1) hn it x t) e ne (by simpa using ne) (by simp)).mono fun i h0 v h _ y => ?_
    obtain ⟨T, tk, u, ev, big, ⟨c, tc, ec, eu⟩, tup⟩ := y
    subst eu
    exact ⟨T, _, _, ev, big, tup, .int (i : Nat), .str ⟨#[c]⟩, ⟨tk, by rw [Int.zero_add]⟩, ⟨tc, rfl⟩, c, rfl, rfl, ec⟩
  · obtain ⟨⟨old, h1⟩, o, h2, _, h3⟩ := st
    simp only [List.not_mem_nil, List.mem_cons, or_false] at hb
    rcases hb with hb | hb <;> subst hb
    · exact ⟨_, h1, by simp⟩
    · exact ⟨o, h2, by simp [h3]⟩
  · obtain ⟨⟨old, h1⟩, _⟩ := st
    exact wpAny_pyIter_enum h1 q
theorem turn_zipS {P : Program} {w : World} {K : PySem.W.Frag} {elts : List Expr} {kk : Nat} {tpos : Pos} (x y : Str) (t u : Tok) {z TI TO i1 i2 : Addr} (D : ZipSep2 z TI TO i1 i2 [i1] [i2]) (hxy : x.cps.size = y.cps.size) :
    Turn P w K (.Tuple elts kk tpos) (ItP x.cps.size (pairS x y)) [z, TI, TO, i1, i2] z
      (fun i h => IsZip h z TI TO .none ∧ IsTupOf2 h TI (.ref i1) (.ref i2) ∧ (∃ a1 a2, IsTupOf2 h TO a1 a2) ∧ h.IsStrIter i1 (strIterType x) x t i ∧ h.IsStrIter i2 (strIterType y) y u i) := by
  refine turnP (wr := [z, TO, i1, i2]) (fun A hn => ?_) (by simp) (fun i h st b hb => ?_) fun A i s Q E st q => ?_
  · have G := GoesN.zip2 (prog := P) (w := w) (A := A) (elts := elts) (x1 := kk) (pos := tpos) D (Draws.text (A := A.in1) hn i1 x t) (Draws.text (A := A.in1) hn i2 y u)
    rw [← hxy, Nat.min_self] at G
    refine G.mono fun i h0 v h _ w => ?_
    obtain ⟨T, v1, v2, ev, big, ⟨c, tc, ec, e1⟩, ⟨d, td, ed, e2⟩, tup⟩ := w
    subst e1 e2
    exact ⟨T, _, _, ev, big, tup, .str ⟨#[c]⟩, .str ⟨#[d]⟩, ⟨tc, rfl⟩, ⟨td, rfl⟩, c, d, rfl, rfl, ec, ed⟩
  · obtain ⟨h1, h2, ⟨a1, a2, h3⟩, ⟨o4, h4, _, d4⟩, o5, h5, _, d5⟩ := st
    simp only [List.not_mem_nil, List.mem_cons, or_false] at hb
    rcases hb with hb | hb | hb | hb | hb <;> subst hb
    · exact ⟨_, h1, by simp⟩
    · exact ⟨_, h2, by simp⟩
    · exact ⟨_, h3, by simp⟩
    · exact ⟨o4, h4, by simp [d4]⟩
    · exact ⟨o5, h5, by simp [d5]⟩
  · exact wpAny_pyIter_zip st.1 q
def iEnumS (ta : TA) : TI := fun σ H R => ta σ H fun vs H1 => ∃ x, vs = [.str x] ∧ R (ItP x.cps.size (placeS x)) H1
def iZipS (ta : TA) : TI := fun σ H R => ta σ H fun vs H1 => ∃ x y, vs = [.str x, .str y] ∧ x.cps.size = y.cps.size ∧ R (ItP x.cps.size (pairS x y)) H1
section
variable {X : Cx} {e e2 : Expr} {ta : TA} {p pos tpos : Pos} {elts : List Expr} {kk : Nat}
theorem pi_enumS (hg : Gl X "enumerate") (hm : X.mg "enumerate" = none) (ha : PA X [e] ta) (hs : starEach [e] X.env = [(false, eval e X.env)] := by rfl) :
    PI X (.Tuple elts kk tpos) (.Call (.Name "enumerate" p) [e] [] pos) (iEnumS ta) where
  run pins s σ H R I h := by
    refine Call_ (ld_blt I hg hm PyProof.Rows.boot_enumerate (PyProof.Rows.callWith_type1 (thn (ha.run pos pins s σ H _ I h) ?_) hs rfl))
    rintro us s1 ⟨vs, H1, I1, r1, x, rfl, q⟩
    obtain _ | ⟨⟨t, rfl⟩, _ | _⟩ := r1
    refine call_enumerate_str fun h' he hit hsz old => wpAny_pyIter_enum he ?_
    have new : ∀ b, s1.heap.objs.size ≤ b → FpOk X pins H1 b := fun b hb => I1.fpOk hb (I1.hok.fresh hb)
    refine ⟨_, [s1.heap.objs.size + 1, s1.heap.objs.size], _, _, H1, rfl, I1.kept (t' := s1.toks) old, turn_enumS x t _ _ (Nat.succ_ne_self _), ⟨⟨.none, he⟩, hit⟩, ?_, q⟩
    simp only [List.forall_mem_cons]
    exact ⟨new _ (Nat.le_succ _), new _ (Nat.le_refl _), fun _ z => nomatch z⟩
theorem pi_zipS (hg : Gl X "zip") (hm : X.mg "zip" = none) (ha : PA X [e, e2] ta)
    (hs : starEach [e, e2] X.env = (false, eval e X.env) :: starEach [e2] X.env := by rfl)
    (hpl : (backTo pos (starEach [e2] X.env)).any (·.1) = false := by rfl) :
    PI X (.Tuple elts kk tpos) (.Call (.Name "zip" p) [e, e2] [] pos) (iZipS ta) where
  run pins s σ H R I h := by
    refine Call_ (ld_blt I hg hm PyProof.Rows.boot_zip (PyProof.Rows.callWith_type1 (thn (ha.run pos pins s σ H _ I h) ?_) hs hpl))
    rintro us s1 ⟨vs, H1, I1, r1, x, y, rfl, hxy, q⟩
    obtain _ | ⟨⟨t, rfl⟩, _ | ⟨⟨u, rfl⟩, _ | _⟩⟩ := r1
    refine zip_begins2 (begins_text x t) (begins_text y u) trivial trivial fun h' hz hTI hTO h1 h2 hsz old => wpAny_pyIter_zip hz ?_
    have new : ∀ k, FpOk X pins H1 (s1.heap.objs.size + k) := fun k => I1.fpOk (Nat.le_add_right _ _) (I1.hok.fresh (Nat.le_add_right _ _))
    have D := zip_sep2 (N := s1.heap.objs.size) (fp1 := []) (fp2 := []) (fun _ z => nomatch z) (fun _ z => nomatch z)
    refine ⟨_, _, _, _, H1, rfl, I1.kept (t' := s1.toks) old, turn_zipS x y t u D hxy, ⟨hz, hTI, ⟨_, _, hTO⟩, ⟨_, h1, rfl, rfl⟩, ⟨_, h2, rfl, rfl⟩⟩, ?_, q⟩
    simp only [List.forall_mem_cons]
    exact ⟨new 4, new 2, new 3, new 0, new 1, fun _ z => nomatch z⟩
end
end Pm
/-! rules of this claim's own: min of texts, text[::-1] -/
namespace Pm
open PySem PySem.Spec PySem.SeqAt PyProof.Rows L2
open PySem.W (minD AlikeAll min_list_data dataLt dataLt_str alike rcLt_alike)
/-! ### text[::-1] -/
def revS (z : Str) : Str := ⟨z.cps.reverse⟩
theorem revS_len (z : Str) : (revS z).length = z.length := by
  show z.cps.reverse.size = z.cps.size
  exact Array.size_reverse
theorem rev_picked (z : Str) : (Builtin.Str.strSliceIndices none none (-1) z.length).filterMap (z.cps[·]?) = z.cps.toList.reverse := by
  have e : Builtin.Str.strSliceIndices none none (-1) z.length = sliceRange ((z.length : Int) - 1) (-1) (-1) := rfl
  rw [e, PySem.W.krv_sliceRange, PySem.W.krv_range, List.filterMap_reverse]
  show (List.filterMap (fun x => z.cps[x]?) (List.range z.cps.size)).reverse = _
  rw [PySem.W.krv_all]
def tRevS (te : TE) : TE := fun σ H Q => te σ H fun x H1 => ∃ z, x = .str z ∧ z.length ≤ sizeLine ∧ Q (.str (revS z)) H1
theorem pe_revS {X : Cx} {e : Expr} {te : TE} {k : Nat} {p1 p2 p3 pos : Pos} (he : PE X e te)
    (hsub : ∀ z t a, subscripted (.Slice none none (some (.UnaryOp .USub (.Constant (.int 1) k p1) p2)) p3) false (.str z t) (.ref a) = operate [.ref a, .str z t] (getItem (.str z t) (.ref a)) := by intro _ _ _; with_unfolding_all rfl)
    (htmp : ∀ z t r, letTemporaryGo e (.str z t) r = pure () := by intro _ _ _; with_unfolding_all rfl) :
    PE X (.Subscript e (.Slice none none (some (.UnaryOp .USub (.Constant (.int 1) k p1) p2)) p3) pos) (tRevS te) := by
  refine ⟨fun pins s σ H Q I want => ?_⟩
  have back : PO X (some (.UnaryOp .USub (.Constant (.int 1) k p1) p2)) (tPart (tUn (rU fun i => .int (-i)) (tC (.int 1)))) := po_some (pe_un un_neg pe_int)
  refine Subscript_ (thn (he.run pins s σ H _ I want) ?_)
  rintro _ s1 ⟨_, H1, I1, rz, z, rfl, hz, q⟩
  obtain ⟨tz, rfl⟩ := rz
  refine wpAny_Slice (thn (po_none.run pins s1 σ H1 (fun o G => o = none ∧ G = H1) I1 ⟨rfl, rfl⟩) ?_)
  rintro vl s2 ⟨_, H2, I2, pl, rfl, rfl⟩
  refine thn (po_none.run pins s2 σ H2 (fun o G => o = none ∧ G = H2) I2 ⟨rfl, rfl⟩) ?_
  rintro vu s3 ⟨_, H3, I3, pu, rfl, rfl⟩
  refine thn (back.run pins s3 σ H3 (fun o G => o = some (-1) ∧ G = H3) I3 ⟨1, rfl, -1, rfl, rfl, rfl⟩) ?_
  rintro vs s4 ⟨_, H4, I4, ps, rfl, rfl⟩
  obtain ⟨l, rfl, el⟩ := IsPart.raw pl
  obtain ⟨u, rfl, eu⟩ := IsPart.raw pu
  obtain ⟨st, rfl, est⟩ := IsPart.raw ps
  have I5 : Inv X pins σ H4 { s4 with heap := s4.heap.push { cls := .type "slice", data := .fields #[partValue l, partValue u, partValue st] } } := I4.kept (t' := s4.toks) fun b ob q => Heap.get?_push_of_some _ q
  refine tail_of_ItemOn ⟨"str", _, F.slot_str_getitem.lookup, typeIs_str _ _ _, ?_⟩ (hsub _ _ _) (htmp _ _)
  refine wpAny_getItem_str_slice (l := l) (u := u) (st := st) ⟨_, Heap.get?_push_size _ rfl, rfl, rfl⟩ ?_ ?_
  · rw [est]; rfl
  · unfold sliceMade slicePicked
    rw [el, eu, est]
    show Made.post (if ((-1 : Int) == 1 && (Builtin.Str.strSliceIndices none none (-1) z.length).length == z.length) = true then Made.val (.str z tz)
      else Made.str ⟨((Builtin.Str.strSliceIndices none none (-1) z.length).filterMap (z.cps[·]?)).toArray⟩) (EP X pins σ Q) _
    rw [if_neg (by simp), rev_picked]
    have e5 : (⟨z.cps.toList.reverse.toArray⟩ : Str) = revS z := by
      unfold revS
      rw [List.reverse_toArray]
    rw [e5]
    exact ⟨by rw [revS_len]; exact hz, ⟨.str (revS z), H4, I5.tok _, ⟨_, rfl⟩, q⟩⟩
/-! ### min of two texts, of a list of texts -/
abbrev ltS (x y : Str) : Prop := x.cps.toList < y.cps.toList
def rMinS (K : PySem.W.Frag) : List V → Hp → VK → Prop := fun vs H Q => ∃ (a : Addr) (zs : List Str), vs = [V.ref a] ∧ SqL K H a (zs.map V.str) ∧ zs ≠ [] ∧ ∀ m, m ∈ zs → (∀ y, y ∈ zs → ¬ ltS y m) → Q (.str m) H
theorem reads_strs {h : Heap} : ∀ {zs : List Str} {us : List Value}, Vals (zs.map V.str) us → ReadsAll h us (zs.map PyData.str) []
  | [], us, r => by
    have r' : Vals [] us := r
    cases r'
    exact .nil
  | z :: zs, us, r => by
    have r' : Vals (V.str z :: zs.map V.str) us := r
    cases r' with
    | cons r1 r2 =>
      obtain ⟨t, rfl⟩ := r1
      exact .cons (bs := []) (as := []) (.str z t) (reads_strs r2)
theorem depth_strs : ∀ zs : List Str, PyData.depthAll (zs.map .str) = 0
  | [] => (by simp [PyData.depthAll])
  | x :: xs => by
    show PyData.depthAll (.str x :: xs.map .str) = 0
    rw [PyData.depthAll, depth_strs xs]
    simp [PyData.depth]
theorem min_fold : ∀ (zs : List Str) (x : Str), ∃ m, m ∈ x :: zs ∧ (∀ y, y ∈ x :: zs → ¬ ltS y m) ∧ minD (.str x) (zs.map .str) = .str m
  | [], x => ⟨x, List.mem_cons_self .., (fun y hy => by
      rcases List.mem_cons.mp hy with rfl | no
      · exact List.lt_irrefl _
      · cases no), rfl⟩
  | z :: zs, x => by
    have e : minD (.str x) ((z :: zs).map .str) = minD (.str (if decide (ltS z x) then z else x)) (zs.map .str) := by
      unfold minD
      show List.foldl _ (if dataLt (.str z) (.str x) = true then PyData.str z else PyData.str x) (zs.map PyData.str) = _
      rw [dataLt_str]
      by_cases c : ltS z x
      · simp [c]
      · simp [c]
    rw [e]
    obtain ⟨m, hm, hl, em⟩ := min_fold zs (if decide (ltS z x) then z else x)
    refine ⟨m, ?_, ?_, em⟩
    · rcases List.mem_cons.mp hm with h | h
      · rw [h]
        split
        · exact List.mem_cons_of_mem _ (List.mem_cons_self ..)
        · exact List.mem_cons_self ..
      · exact List.mem_cons_of_mem _ (List.mem_cons_of_mem _ h)
    · have hw := hl _ (List.mem_cons_self ..)
      intro y hy
      rcases List.mem_cons.mp hy with h | hy
      · by_cases c : ltS z x
        · simp only [c, decide_true, if_true] at hw
          intro hlt
          rw [h] at hlt
          exact hw (List.lt_trans c hlt)
        · simp only [c, decide_false, if_false, Bool.false_eq_true] at hw
          rw [h]; exact hw
      · rcases List.mem_cons.mp hy with h | hy
        · by_cases c : ltS z x
          · simp only [c, decide_true, if_true] at hw
            rw [h]; exact hw
          · simp only [c, decide_false, if_false, Bool.false_eq_true] at hw
            intro hlt
            rw [h] at hlt
            exact absurd hlt (List.not_lt.mpr (List.le_trans (List.not_lt.mp hw) (List.not_lt.mp c)))
        · exact hl y (List.mem_cons_of_mem _ hy)
theorem cr_minS {X : Cx} (hc : X.calm = true) (hu : X.A.units + 2 < cLine) : CallR X (.builtin "min") (rMinS X.K) := by
  rintro pins s σ H _ us Q I r ⟨a, zs, rfl, hq, hne, q⟩
  rw [Vals.ref1 r]
  obtain ⟨its, rv, p, _⟩ := I.list hq
  cases zs with
  | nil => exact absurd rfl hne
  | cons x zs =>
    have hr : ReadsAll s.heap its.toArray.toList (.str x :: zs.map .str) [] := by
      have := reads_strs (h := s.heap) rv
      simpa using this
    have hal : AlikeAll (PyData.str x :: zs.map .str) := by
      have e : (PyData.str x :: zs.map .str) = (x :: zs).map .str := rfl
      rw [e]
      refine ⟨?_, ?_⟩
      · exact PySem.W.AllAlike.of (fun _ _ => by simp [alike])
      · intro d hd
        obtain ⟨y, _, rfl⟩ := List.mem_map.mp hd
        simp
    refine min_list_data (I.ok.hd hc) p.isList hr hal ?_ fun i v h' tk bs hv hrd hk => ?_
    · have e : (PyData.str x :: zs.map .str) = (x :: zs).map .str := rfl
      rw [e, depth_strs]
      omega
    · obtain ⟨m, hm, hl, em⟩ := min_fold zs x
      rw [em] at hrd
      cases hrd
      exact ⟨.str m, H, I.kept hk, ⟨_, rfl⟩, q m hm hl⟩
def strItems (xs : Array (Str × Tok)) : Array Value := xs.map fun p => .str p.1 p.2
def minS2 (x y : Str) : Str := if decide (ltS y x) then y else x
theorem strItem_at {a b : Str} {t u : Tok} : ∀ (i : Nat) (v : Value), (strItems #[(a, t), (b, u)])[i]? = some v → ∃ t0, v = .str (([a, b] : List Str).getD i default) t0
  | 0, v, h => by simp [strItems] at h; exact ⟨t, h.symm⟩
  | 1, v, h => by simp [strItems] at h; exact ⟨u, h.symm⟩
  | i + 2, v, h => by simp [strItems] at h
theorem minS2_pick (a b : Str) : ([a, b] : List Str).getD (argBest (fun i j => decide (ltS (([a, b] : List Str).getD i default) (([a, b] : List Str).getD j default))) 1) default = minS2 a b := by
  by_cases c : ltS b a <;> simp [argBest, minS2, c]
theorem call_min2S {X : Cx} (hc : X.calm = true) (hu : X.A.units + 2 < cLine) : CallR X (.builtin "min") (fun xs H Q => ∃ x y, xs = [.str x, .str y] ∧ Q (.str (minS2 x y)) H) := by
  rintro pins s σ H _ us Q I r ⟨a, b, rfl, q⟩
  obtain ⟨_, _, rfl, ⟨t, rfl⟩, t', rfl⟩ := vals2 r
  let pair : Obj := { cls := .type "tuple", data := .seq #[.str a t, .str b t'] }
  have hT : (s.heap.push pair).IsTuple s.heap.objs.size (strItems #[(a, t), (b, t')]) := ⟨_, Heap.get?_push_size _ rfl, rfl, 0, by simp [strItems, pair]⟩
  have big : (s.heap.push pair).objs.size = s.heap.objs.size + 1 := Heap.size_push ..
  have hcmp : CmpOf X.prog X.w X.A.in1 .Lt (fun i v => (strItems #[(a, t), (b, t')])[i]? = some v) (fun i j => decide (ltS (([a, b] : List Str).getD i default) (([a, b] : List Str).getD j default))) := by
    intro i j vi vj s' Q' E' hi hj hq
    obtain ⟨t1, rfl⟩ := strItem_at i vi hi
    obtain ⟨t2, rfl⟩ := strItem_at j vj hj
    refine rcLt_alike _ _ X.A.in1 s' _ _ _ _ (.str _ t1) (.str _ t2) (by simp [alike]) (by simp) ?_ X.prog X.w E' Q' ?_
    · show X.A.units + 1 + _ < _
      simp [PyData.depth]
      omega
    · rw [dataLt_str]; exact hq
  have W := Walks.tuple (prog := X.prog) (w := X.w) (A := X.A.in1) (I.ok.hd hc) (s.heap.push pair).objs.size s.heap.objs.size (by rw [big]; exact Nat.ne_of_lt (Nat.lt_succ_self _)) (strItems #[(a, t), (b, t')])
  refine call_min_two (wpAny_pyIter_tuple hT ⟨_, _, _, _, _, _, _, rfl, W, ⟨⟨_, Heap.get?_push_size _ rfl, rfl, rfl⟩, hT.push _⟩, ?_, by simp [strItems], hcmp, ?_⟩)
  · simp only [List.forall_mem_cons, Heap.size_push]
    exact ⟨Nat.lt_succ_self _, Nat.lt_succ_of_lt (Nat.lt_succ_self _), fun _ z => nomatch z⟩
  · intro v h' tk hP old
    have kept : ∀ c o, s.heap.get? c = some o → h'.get? c = some o := fun c o e => by
      refine old c o ?_ (Heap.get?_push_of_some _ (Heap.get?_push_of_some _ e))
      have lt := Heap.lt_size e
      rw [List.mem_singleton, big]
      exact Nat.ne_of_lt (Nat.lt_succ_of_lt lt)
    obtain ⟨t0, rfl⟩ := strItem_at _ v hP
    have two : (strItems #[(a, t), (b, t')]).size - 1 = 1 := by simp [strItems]
    exact ⟨.str (minS2 a b), H, I.kept kept, ⟨t0, by rw [two, minS2_pick]⟩, q⟩
end Pm
/-! own rules: a set of texts, filled from a list; the order in which it is walked is left open -/
namespace Pm
open L2 PySem PySem.Spec PyProof.Rows
/-- the text of an entry -/
def zOf (e : Int × Value) : Str := match e.2 with | .str z _ => z | _ => default
def ZOk (w : World) (e : Int × Value) : Prop := ∃ z t, e.2 = .str z t ∧ e.1 = hashStr w z
/-- the entries are the texts zs, each once; the table can be walked -/
structure Zs (w : World) (es : Array (Int × Value)) (t : SetTable) (zs : List Str) : Prop where
  ok : ∀ e ∈ es.toList, ZOk w e
  all : (es.toList.map zOf).Perm zs
  nd : zs.Nodup
  few : es.size < scanBound
  fit : t.fits es.size = true
  ris : Ris t.place.toList
  led : (w.params.followText "set-order" = true) ∨ (t.led = true)
structure SetZ (w : World) (h : Heap) (a : Addr) (zs : List Str) : Prop where
  ex : ∃ o es ep t, h.get? a = some o ∧ o.ExactSet ∧ o.data = .set es ep t ∧ Zs w es t zs
section
variable {P : Program} {w : World} {A : Around} {E : Value → Shared → Prop} {s : Shared} {h h' : Heap} {a : Addr} {zs : List Str} {es es' : Array (Int × Value)} {t t' : SetTable} {o : Obj} {ep : Nat}
theorem SetZ.keep (R : SetZ w h a zs) (k : ∀ o, h.get? a = some o → h'.get? a = some o) : SetZ w h' a zs := by
  obtain ⟨o, es, ep, t, e, r⟩ := R
  exact ⟨o, es, ep, t, k o e, r⟩
theorem ZOk.is {e : Int × Value} (x : ZOk w e) (z : Str) : (PySem.strKind P w).is z e.2 = true ↔ zOf e = z := by
  obtain ⟨y, u, e1, _⟩ := x
  have q : zOf e = y := by unfold zOf; rw [e1]
  rw [q, e1]
  constructor
  · intro b
    obtain ⟨v, ev⟩ := Value.isStrOf_shape (x := z) (v := .str y u) b
    injection ev
  · rintro rfl
    exact strKind_is _ _ _ _
theorem Zs.elems (R : Zs w es t zs) : ElemsOf (PySem.strKind P w) es.toList := fun e he => by
  obtain ⟨z, u, e1, e2⟩ := R.ok e he
  rw [e1]
  exact ⟨⟨z, strKind_is _ _ _ _, e2⟩, rfl⟩
theorem Zs.mem (R : Zs w es t zs) (z : Str) : z ∈ zs ↔ ∃ e ∈ es.toList, (PySem.strKind P w).is z e.2 = true := by
  rw [← R.all.mem_iff, List.mem_map]
  exact ⟨fun ⟨e, he, q⟩ => ⟨e, he, ((R.ok e he).is z).2 q⟩, fun ⟨e, he, q⟩ => ⟨e, he, ((R.ok e he).is z).1 q⟩⟩
theorem Zs.size (R : Zs w es t zs) : es.size = zs.length := by
  rw [← R.all.length_eq, List.length_map, Array.length_toList]
/-- other entries, another table, the same texts -/
theorem Zs.relay (R : Zs w es t zs) (p : es'.toList.Perm es.toList) (fit : t'.fits es'.size = true) (ris : Ris t'.place.toList) (led : t'.led = t.led) : Zs w es' t' zs where
  ok e he := R.ok e (p.mem_iff.mp he)
  all := (p.map zOf).trans R.all
  nd := R.nd
  few := by
    rw [← Array.length_toList, p.length_eq, Array.length_toList]
    exact R.few
  fit := fit
  ris := ris
  led := by rw [led]; exact R.led
theorem Zs.plain (R : Zs w es t zs) (b : Bool) : Zs w es { t with plain := b } zs := ⟨R.ok, R.all, R.nd, R.few, R.fit, R.ris, R.led⟩
theorem Zs.more {z : Str} {u : Tok} (R : Zs w es t zs) (nz : z ∉ zs) (room : zs.length + 1 < scanBound) (p : es'.toList.Perm ((hashStr w z, .str z u) :: es.toList)) (fit : t'.fits es'.size = true) (ris : Ris t'.place.toList) (led : t'.led = t.led) : Zs w es' t' (z :: zs) where
  ok e he := by
    rcases List.mem_cons.mp (p.mem_iff.mp he) with q | q
    · exact ⟨z, u, by rw [q], by rw [q]⟩
    · exact R.ok e q
  all := (p.map zOf).trans (List.Perm.cons z R.all)
  nd := List.nodup_cons.mpr ⟨nz, R.nd⟩
  few := by
    have q := p.length_eq
    rw [Array.length_toList, List.length_cons, Array.length_toList, R.size] at q
    rw [q]; exact room
  fit := fit
  ris := ris
  led := by rw [led]; exact R.led
/-- the entries are stored -/
theorem store_zs {Q : Unit → Shared → Prop} (e : s.heap.get? a = some o) (ex : o.ExactSet) (d : o.data = .set es ep t) (R : Zs w es' t' zs)
    (q : ∀ h', Heap.SameBut a s.heap h' → (∃ o' ep', h'.get? a = some o' ∧ o'.ExactSet ∧ o'.data = .set es' ep' t') → Q () { s with heap := h' }) : wpAny (model P w) A (storeSet a es' t') Q E s := by
  have sb := Heap.SameBut.update s.heap a (Obj.putSet es' t')
  refine wpAny_storeSet_of e d (q _ sb ⟨_, ep + 1, store_at e d, ?_, rfl⟩) (fits_of_scanBound R.few)
  exact ex
/-- one text more; Q is told whether it is new -/
theorem addZ {z : Str} {u : Tok} {Q : Bool → Shared → Prop} (R : SetZ w s.heap a zs) (room : zs.length + 1 < scanBound)
    (old : z ∈ zs → ∀ b, Q b s) (new : z ∉ zs → ∀ b h', Heap.SameBut a s.heap h' → SetZ w h' a (z :: zs) → Q b { s with heap := h' }) :
    wpAny (model P w) A (setAddHashed a (.str z u) ((PySem.strKind P w).hash z)) Q E s := by
  obtain ⟨o, es, ep, t, e, ex, d, R⟩ := R
  have key : (PySem.strKind P w).is z (.str z u) = true := strKind_is _ _ _ _
  have rule' : ∀ (b : Bool) (s1 : Shared) (Q' : Unit → Shared → Prop), Q' () s1 → wpAny (model P w) A (match b with | true => rule "set.scan.the-table-gave-way" | false => pure ()) Q' E s1 := by
    rintro (_ | _) s1 Q' q
    · exact wpAny_pure q
    · exact wpAny_rule q
  unfold setAddHashed
  unfold setAddHashedIn
  refine wpAny_holding (wpAny_bind (wpAny_setState_of e d R.fit ?_))
  dsimp only
  rw [byScan_of (knd := PySem.strKind P w) (x := .str z u) rfl R.few R.elems]
  simp only [↓reduceIte]
  unfold setAddByScan
  refine wpAny_bind (wpAny_bind (wpAny_rule (wpAny_bind (wpAny_setScan_of key e d R.fit R.elems ?_))))
  cases found : List.findIdx? (fun e => (PySem.strKind P w).is z e.2) es.toList with
  | some j =>
    obtain ⟨hj, pj, _⟩ := List.findIdx?_eq_some_iff_getElem.mp found
    have inz : z ∈ zs := (R.mem (P := P) z).2 ⟨es.toList[j], List.getElem_mem hj, pj⟩
    exact wpAny_pure (wpAny_pure (old inz _))
  | none =>
    have notz : z ∉ zs := fun inz => by
      obtain ⟨x, hx, b⟩ := (R.mem (P := P) z).1 inz
      rw [List.findIdx?_eq_none_iff.mp found x hx] at b
      cases b
    have fin := fun b => new notz b
    dsimp only
    have p := layNew_perm t es ((PySem.strKind P w).hash z) (.str z u)
    have f1 := layNew_fits t es ((PySem.strKind P w).hash z) (.str z u)
    have r1 := layNew_ris t es ((PySem.strKind P w).hash z) (.str z u) R.ris
    have l1 := layNew_led t es ((PySem.strKind P w).hash z) (.str z u)
    revert p f1 r1 l1
    generalize layNew t es ((PySem.strKind P w).hash z) (.str z u) = Z
    obtain ⟨es1, t1, dummy, gave⟩ := Z
    dsimp only
    intro p f1 r1 l1
    rw [Array.toList_push] at p
    have R1 : Zs w es1 t1 (z :: zs) := R.more notz room (p.trans (List.perm_append_singleton _ _)) f1 r1 l1
    refine wpAny_bind (rule' _ _ _ ?_)
    have rest : ∀ t2 : SetTable, Zs w es1 t2 (z :: zs) → wpAny (model P w) A (do
        storeSet a es1 t2
        if (!dummy && t2.tooFull) = true then do
            (match (relayAll t2 es1 (SetTable.grown es1.size)).2.2 with | true => rule "set.scan.the-table-gave-way" | false => pure ())
            storeSet a (relayAll t2 es1 (SetTable.grown es1.size)).fst (relayAll t2 es1 (SetTable.grown es1.size)).2.1
            pure (some true)
          else pure (some true)) (fun r s1 => ∃ h', r = some true ∧ s1 = { s with heap := h' } ∧ Heap.SameBut a s.heap h' ∧ SetZ w h' a (z :: zs)) E s := by
      intro t2 R2
      refine wpAny_bind (store_zs e ex d R2 fun h1 b1 ⟨o1, ep1, e1, x1, d1⟩ => ?_)
      split
      · have R3 := R2.relay (relayAll_perm t2 es1 (SetTable.grown es1.size)) (relayAll_fits t2 es1 (SetTable.grown es1.size)) (relayAll_ris t2 es1 (SetTable.grown es1.size)) (relayAll_led t2 es1 (SetTable.grown es1.size))
        refine wpAny_bind (rule' _ _ _ (wpAny_bind (store_zs (s := { s with heap := h1 }) e1 x1 d1 R3 fun h2 b2 ⟨o2, ep2, e2, x2, d2⟩ => wpAny_pure ?_)))
        exact ⟨h2, rfl, rfl, b1.trans b2, o2, _, ep2, _, e2, x2, d2, R3⟩
      · exact wpAny_pure ⟨h1, rfl, rfl, b1, o1, _, ep1, _, e1, x1, d1, R2⟩
    split
    · refine wpAny_bind ?_
      rw [hashByValue_scannable 8 (x := .str z u) rfl]
      refine wpAny_pure ?_
      refine thn (rest _ ?_) ?_
      · split
        · exact R1
        · exact R1.plain false
      · rintro _ _ ⟨h', rfl, rfl, b, q⟩
        exact wpAny_pure (fin _ h' b q)
    · refine wpAny_bind (wpAny_pure ?_); simp only [↓reduceIte]
      refine thn (rest _ R1) ?_
      rintro _ _ ⟨h', rfl, rfl, b, q⟩
      exact wpAny_pure (fin _ h' b q)
end
section
variable {P : Program} {w : World} {A : Around} {E : Value → Shared → Prop} {I S : Addr} {fp wr : List Addr} {G : Array GenState → Array GenState → Prop} {n : Nat} {Pv : Nat → Value → Prop} {Sx : Nat → Shared → Prop} {R : Result → Shared → Prop} {xs : List Str}
/-- the loop that fills a set from what is walked -/
theorem loopZ (W : WalksS P w A.in1 I fp wr G n Pv Sx) (apart : S ∉ fp) (hval : ∀ i v, Pv i v → ∃ z t, v = .str z t ∧ xs[i]? = some z) (hn : xs.length = n) (room : n + 1 < scanBound) :
    ∀ (k i : Nat) (s : Shared) (zs : List Str), n - i = k → i ≤ n → Sx i s → SetZ w s.heap S zs → zs.length ≤ i → (∀ z, z ∈ zs ↔ z ∈ xs.take i) →
      (∀ s' zs', Moved (S :: wr) G s s' → SetZ w s'.heap S zs' → zs'.length ≤ n → (∀ z, z ∈ zs' ↔ z ∈ xs) → R (.ok (.ret .none)) s') →
        codeAny (model P w) A (Code.builtin "set.update.loop" ⟨[.ref S, .ref I], []⟩) R s := by
  have nS : S ∉ wr := fun z => apart (W.sub _ z)
  have wide : ∀ b ∈ wr, b ∈ S :: wr := fun b hb => List.mem_cons_of_mem _ hb
  intro k
  induction k with
  | zero =>
    intro i s zs hk hi st RS hl hm fin
    obtain rfl : i = n := by omega
    refine codeAny_builtin PyProof.Rows.F.entry_set_update_loop ?_; rw [Around.under_plainId PyProof.Rows.F.plain_set_update_loop _]
    refine wpAny_bind (W.done s _ _ st fun s' mv => wpAny_pure (fin s' zs (mv.mono wide) (RS.keep fun o e => mv.heap S o nS e) hl fun z => ?_))
    rw [hm z, ← hn, List.take_length]
  | succ k ih =>
    intro i s zs hk hi st RS hl hm fin
    have lt : i < n := by omega
    refine codeAny_builtin PyProof.Rows.F.entry_set_update_loop ?_; rw [Around.under_plainId PyProof.Rows.F.plain_set_update_loop _]
    refine wpAny_bind (W.item i s _ _ lt st fun v s' hv st' mv => ?_)
    obtain ⟨z, u, rfl, hz⟩ := hval i v hv
    have RS' := RS.keep fun o e => mv.heap S o nS e
    have next : ∀ zs2 h2 tk, SetZ w h2 S zs2 → (∀ b o, b ≠ S → s'.heap.get? b = some o → h2.get? b = some o) → s'.toks ≤ tk → zs2.length ≤ i + 1 → (∀ y, y ∈ zs2 ↔ y ∈ zs ∨ y = z) →
        codeAny (model P w) A (.builtin "set.update.loop" ⟨[.ref S, .ref I], []⟩) R { s' with heap := h2, toks := tk } := by
      intro zs2 h2 tk R2 old htk l2 m2
      refine ih (i + 1) _ zs2 (by omega) lt (W.frame _ s' h2 tk st' htk fun b hb o e => old b o (fun q => apart (q ▸ hb)) e) R2 l2 (fun y => ?_) fun s'' zs' mv' R3 l3 m3 => ?_
      · rw [m2 y, hm y, List.take_add_one, hz, List.mem_append]
        simp
      · exact fin s'' zs' (Moved.trans W.gtrans ((mv.mono wide).then_heap htk fun b o hb e => old b o (fun q => hb (q ▸ List.mem_cons_self)) e) mv') R3 l3 m3
    show wpAny _ A.in1 (holding [Value.str z u] (setAdd S (.str z u)) >>= _) _ _ s'
    refine wpAny_bind (wpAny_holding ?_); unfold setAdd
    refine wpAny_holding (wpAny_bind ((PySem.strKind P w).pyHash (strKind_is _ _ _ _) ?_))
    refine addZ (s := { s' with toks := s'.toks + 1 }) RS' (by omega) (fun inz b => ?_) fun nz b h2 sb R2 => ?_
    · refine wpAny_pure ⟨plainId_quiet PyProof.Rows.F.plain_set_update_loop _, next zs s'.heap _ RS' (fun _ _ _ e => e) (Nat.le_succ _) (by omega) fun y => ?_⟩
      exact ⟨.inl, fun q => q.elim id fun q => q ▸ inz⟩
    · refine wpAny_pure ⟨plainId_quiet PyProof.Rows.F.plain_set_update_loop _, next (z :: zs) h2 _ R2 (fun b o ne e => (sb.2 b ne).trans e) (Nat.le_succ _) (by simp; omega) fun y => ?_⟩
      rw [List.mem_cons]
      exact Or.comm
end
end Pm
/-! own rules: set(list of texts), sorted(set of texts) -/
namespace Pm
open L2 PySem PySem.Spec PyProof.Rows
section
variable {P : Program} {w : World} {A : Around} {E : Value → Shared → Prop} {s : Shared} {l : Addr} {items : Array Value} {xs : List Str}
abbrev newSetObj (w : World) : Obj := { cls := .type "set", dict := none, data := .set #[] 0 (.fresh 0 0 (!w.params.followText "set-order")) }
theorem setZ_fresh {h : Heap} {a : Addr} (e : h.get? a = some (newSetObj w)) : SetZ w h a [] := by
  refine ⟨_, #[], 0, _, e, ⟨rfl, rfl, rfl⟩, rfl, fun x hx => by simp at hx, .refl _, List.nodup_nil, by decide, rfl, List.Pairwise.nil, ?_⟩
  cases h : w.params.followText "set-order" with
  | false => exact .inr rfl
  | true => exact .inl rfl
/-- what a set made from the list holds -/
def MadeZ (w : World) (s : Shared) (xs : List Str) (h' : Heap) : Prop := ∃ zs, SetZ w h' s.heap.objs.size zs ∧ zs.length ≤ xs.length ∧ (∀ z, z ∈ zs ↔ z ∈ xs) ∧ ∀ b o, s.heap.get? b = some o → h'.get? b = some o
theorem init_setZ (hh : A.handled = none) (hl : s.heap.IsList l items) (hi : StrsAre items.toList xs) (room : xs.length + 1 < scanBound) {Q : Value → Shared → Prop}
    (q : ∀ h' tk, MadeZ w s xs h' → Q .none { s with heap := h', toks := tk }) :
    wpAny (model P w) A (Builtin.«set.__init__» ⟨[.ref s.heap.objs.size, .ref l], []⟩) (fun f s1 => ∃ v, f = .done (.ret v) ∧ Q v s1) E { s with heap := s.heap.push (newSetObj w) } := by
  have hS : (s.heap.push (newSetObj w)).get? s.heap.objs.size = some (newSetObj w) := Heap.get?_push_size _ rfl
  have big : (s.heap.push (newSetObj w)).objs.size = s.heap.objs.size + 1 := Heap.size_push ..
  have hT : Shared.TypeIs { s with heap := s.heap.push (newSetObj w) } (.ref s.heap.objs.size) "set" := ⟨_, hS, rfl⟩
  obtain ⟨⟨cl, dl, tl, sl⟩, el, ecl, nl, edl⟩ := hl
  dsimp only at ecl edl
  subst ecl edl
  have small : l < s.heap.objs.size := Heap.lt_size el
  have el1 : (s.heap.push (newSetObj w)).get? l = some { cls := .type "list", dict := dl, data := .seq items nl, slots := sl } := Heap.get?_push_of_some _ el
  have hl1 : (s.heap.push (newSetObj w)).IsList l items := ⟨_, el1, rfl, nl, rfl⟩
  have noset := PySem.F.sub_list_set
  have nofrozen := PySem.F.sub_list_frozenset
  have nodict : (Value.type "list" == Value.type "dict") = false := by decide
  unfold Builtin.«set.__init__» Builtin.Frozenset.updateFrom noKeywords
  generalize iterEq : pyIter = iterOf
  wp_walk
  subst iterEq
  refine wpAny_pyIter_list hl1 (wpAny_bind (wpAny_runValue ?_))
  have ne1 : l ≠ (s.heap.push (newSetObj w)).objs.size := by
    rw [big]; exact Nat.ne_of_lt (Nat.lt_succ_of_lt small)
  have ne2 : s.heap.objs.size ∉ [(s.heap.push (newSetObj w)).objs.size, l] := by
    rw [big]
    simp only [List.mem_cons, List.not_mem_nil, or_false, not_or]
    exact ⟨Nat.ne_of_lt (Nat.lt_succ_self _), Nat.ne_of_gt small⟩
  have len : xs.length = items.size := by rw [← StrsAre.len_eq hi, Array.length_toList]
  have hval : ∀ (i : Nat) (v : Value), items[i]? = some v → ∃ z t, v = .str z t ∧ xs[i]? = some z := fun i v hv => by
    have hv' : items.toList[i]? = some v := by rw [Array.getElem?_toList]; exact hv
    obtain ⟨t, ev⟩ := SS.strs_at hi i v hv'
    have lt : i < xs.length := by
      rw [len]
      exact (Array.getElem?_eq_some_iff.mp hv).1
    refine ⟨_, t, ev, ?_⟩
    rw [List.getD_eq_getElem?_getD, List.getElem?_eq_getElem lt]
    rfl
  have W := (Walks.list (prog := P) (w := w) (A := A.in1) (by exact hh) (s.heap.push (newSetObj w)).objs.size l ne1 items).toS
  refine loopZ (S := s.heap.objs.size) W ne2 hval len (by omega) (items.size - 0) 0 _ [] rfl (Nat.zero_le _) ⟨⟨_, Heap.get?_push_size _ rfl, rfl, rfl⟩, hl1.push _⟩ (setZ_fresh (Heap.get?_push_of_some _ hS)) (Nat.le_refl _) (fun z => by simp) ?_
  intro s' zs' mv R hl' hm
  obtain ⟨h', gs, d', tk', os'⟩ := s'
  obtain rfl : gs = s.gens := mv.gens
  obtain rfl : d' = s.drawn := mv.drawn
  obtain rfl : os' = s.os := mv.os
  refine wpAny_pure (wpAny_pure ⟨_, rfl, q h' tk' ⟨zs', R, by omega, hm, fun b o e => ?_⟩⟩)
  have lt := Heap.lt_size e
  refine mv.heap b o ?_ (Heap.get?_push_of_some _ (Heap.get?_push_of_some _ e))
  simp only [List.mem_cons, List.not_mem_nil, or_false, not_or, big]
  exact ⟨Nat.ne_of_lt lt, Nat.ne_of_lt (Nat.lt_succ_of_lt lt)⟩
/-- set(l), l a list of texts -/
theorem call_setZ (hh : A.handled = none) (hl : s.heap.IsList l items) (hi : StrsAre items.toList xs) (room : xs.length + 1 < scanBound) {Q : Value → Shared → Prop}
    (q : ∀ h' tk, MadeZ w s xs h' → Q (.ref s.heap.objs.size) { s with heap := h', toks := tk }) : wpAny (model P w) A (call (.type "set") [.ref l]) Q E s := by
  obtain ⟨c, tl, mro⟩ := PySem.F.called_set.mro
  have made := PySem.F.called_set.made
  have sub := PySem.F.called_set.sub
  apply wpAny_call; apply codeAny_of_tree
  show wpAny (model P w) _ (callAny (.type "set") _) _ E s
  refine wpAny_pure ⟨Code.quiet_builtin _ (by decide +kernel), codeAny_builtin PySem.F.entry_type_call ?_⟩; rw [Around.under_plain (weight_type_call_type "set" [.ref l] []) rfl]
  have c1 := PySem.F.called_set.notType
  have c2 := PySem.F.called_set.canCreate
  have c3 := PySem.F.typeCall_set_1 (.ref l)
  repeat (any_goals first | assumption | wp_step)
  refine codeAny_mono (code_set_led1 (.ref l) (E := E) (Q₁ := fun v s1 => v = .ref s.heap.objs.size ∧ s1 = { s with heap := s.heap.push (newSetObj w) }) ⟨rfl, rfl⟩) ?_
  rintro (e | _ | _ | _ | v) s1 got
  all_goals try exact got.elim
  all_goals try exact got
  obtain ⟨rfl, rfl⟩ := got
  have hT : Shared.TypeIs { s with heap := s.heap.push (newSetObj w) } (.ref s.heap.objs.size) "set" := ⟨_, Heap.get?_push_size _ rfl, rfl⟩
  have i1 := PySem.F.called_set.init.lookup
  have i2 := PySem.F.called_set.init.bind (.ref s.heap.objs.size)
  repeat (any_goals first | assumption | wp_step)
  refine codeAny_mono (codeAny_call_builtin (R := wants (fun r s2 => r = .none ∧ ∃ h' tk, s2 = { s with heap := h', toks := tk } ∧ MadeZ w s xs h') E) PySem.F.called_set.init.plain PySem.F.entry_set_init (check_set_init_1 hT ?_)) ?_
  · refine wpAny_mono (init_setZ (P := P) (A := A.in1.in1) hh hl hi room (Q := fun v s2 => v = .none ∧ ∃ h' tk, s2 = { s with heap := h', toks := tk } ∧ MadeZ w s xs h') fun h' tk m => ⟨rfl, h', tk, rfl, m⟩) ?_ fun _ _ e => e
    rintro _ s2 ⟨v, rfl, rfl, h', tk, rfl, m⟩
    exact ⟨rfl, h', tk, rfl, m⟩
  · rintro (e | _ | _ | _ | v) s2 got
    all_goals try exact got.elim
    all_goals try exact got
    obtain ⟨rfl, h', tk, rfl, m⟩ := got
    repeat (any_goals first | assumption | wp_step)
    exact q h' tk m
end
end Pm
namespace Pm
open L2 PySem PySem.Spec PyProof.Rows
theorem strsAre_vals : ∀ {zs : List Str} {us : List Value}, StrsAre us zs → Vals (zs.map V.str) us
  | _, _, .nil => .nil
  | _, _, .cons x t r => .cons ⟨t, rfl⟩ (strsAre_vals r)
theorem vals_strsAre {zs : List Str} {us : List Value} (r : Vals (zs.map V.str) us) : StrsAre us zs := strsAre_of r
theorem strs_entries {w : World} : ∀ {es : List (Int × Value)}, (∀ e ∈ es, ZOk w e) → StrsAre (es.map (·.2)) (es.map zOf)
  | [], _ => .nil
  | e :: es, h => by
    obtain ⟨z, t, e1, _⟩ := h e (List.mem_cons_self ..)
    have q : zOf e = z := by unfold zOf; rw [e1]
    show StrsAre (e.2 :: es.map (·.2)) (zOf e :: es.map zOf)
    rw [e1, q]
    exact .cons z t (strs_entries fun x hx => h x (List.mem_cons_of_mem _ hx))
theorem strs_perm {us : List Value} {vs : List Value} (p : us.Perm vs) : ∀ {zs : List Str}, StrsAre us zs → ∃ ys, StrsAre vs ys ∧ ys.Perm zs := by
  induction p with
  | nil => exact fun r => ⟨_, r, .refl _⟩
  | cons v _ ih =>
    intro zs r
    cases r with
    | cons x t r =>
      obtain ⟨ys, h1, h2⟩ := ih r
      exact ⟨x :: ys, .cons x t h1, h2.cons x⟩
  | swap u v l =>
    intro zs r
    cases r with
    | cons x t r =>
      cases r with
      | cons y t' r => exact ⟨_, .cons y t' (.cons x t r), .swap _ _ _⟩
  | trans _ _ i1 i2 =>
    intro zs r
    obtain ⟨ys, h1, h2⟩ := i1 r
    obtain ⟨xs, h3, h4⟩ := i2 h1
    exact ⟨xs, h3, h4.trans h2⟩
section
variable {P : Program} {w : World} {A : Around} {E : Value → Shared → Prop} {s : Shared} {a : Addr} {zs : List Str}
theorem call_sortedZ (hh : A.handled = none) (R : SetZ w s.heap a zs) {Q : Value → Shared → Prop}
    (q : ∀ (s' : Shared) (p : Addr) (out : Array Value) (c : Nat) (ys : List Str), (∀ b o, s.heap.get? b = some o → s'.heap.get? b = some o) → s'.gens = s.gens → s'.os = s.os → s.heap.objs.size ≤ p →
      s'.heap.get? p = some (seqObj "list" out c) → StrsAre out.toList ys → ys.Perm zs → Q (.ref p) s') :
      wpAny (model P w) A (call (Value.builtin "sorted") [.ref a]) Q E s := by
  obtain ⟨o, es, ep, t, e, ex, d, R⟩ := R
  apply Calls.call_function_entry kind_sorted plain_sorted entry_sorted (args_sorted1 _)
  unfold Builtin.«sorted»
  refine wpAny_bind (m := checkCount "sorted" 1 1 _) (wpAny_pure (wpAny_bind (collect_set (A := A.in1) hh ⟨o, e, ex.1, d⟩ R.fit R.few R.ris R.led fun s1 vs old big g1 o1 pm => ?_)))
  obtain ⟨us, hus, pus⟩ := strs_perm pm.symm (strs_entries R.ok)
  have few : vs.length ≤ sizeLine := by
    rw [pm.length_eq, List.length_map, Array.length_toList]
    exact fits_of_scanBound R.few
  refine wpAny_bind (wpAny_newList ?_ few)
  have made : (s1.heap.push (seqObj "list" vs.toArray 0)).get? s1.heap.objs.size = some (seqObj "list" vs.toArray 0) := Heap.get?_push_size _ rfl
  refine wpAny_bind (wpAny_holding (wpAny_call_entry slot_list_sort ⟨_, made, rfl⟩ entry_list_sort (list_sort_treeKAny strKind_oneLt made hus.keysOf (fun v1 v2 rest ev => keyKind_strs (by rw [← ev]; exact hus)) few fun st' p1 p2 => ⟨_, rfl, ?_⟩) (args_list_sort _)))
  obtain ⟨ys, y1, y2, _⟩ := sorted_out_str hus p1 p2
  obtain ⟨c, hc⟩ := sortedHeap_at (vs := vs) (out := (arrOf st').map (·.2)) made
  refine wpAny_pure ⟨_, rfl, q _ _ _ c ys (fun b u eb => ?_) g1 o1 big hc y1 (y2.trans (pus.trans R.all))⟩
  have there := old b u eb
  have lt := Heap.lt_size there
  rw [← Heap.get?_push_of_some (seqObj "list" vs.toArray 0) there]
  exact sortedHeap_old (Nat.ne_of_lt lt) (by rw [Heap.size_push]; exact Nat.lt_succ_of_lt lt)
end
/-! over the layer -/
def SetZO (w : World) (a : Addr) (zs : List Str) : HO := .ext fun h => SetZ w h a zs
theorem setZO_new {w : World} {P : Program} {H : Hp} {h : Heap} {a : Addr} {zs : List Str} (R : SetZ w h a zs) : ObjOk P w H h a (SetZO w a zs) := by
  obtain ⟨o, es, ep, t, e, r⟩ := id R
  exact ⟨R, ⟨o, e⟩, fun _ _ p k => p.keep k⟩
def rSetZ (K : PySem.W.Frag) (w : World) : List V → Hp → VK → Prop := fun vs H Q => ∃ (l : Addr) (xs : List Str), vs = [.ref l] ∧ SqL K H l (xs.map V.str) ∧ xs.length + 1 < scanBound ∧
  ∀ p zs, zs.length ≤ xs.length → (∀ z, z ∈ zs ↔ z ∈ xs) → H p = none → Q (.ref p) (upd H p (SetZO w p zs))
def rSortedZ (w : World) : List V → Hp → VK → Prop := fun vs H Q => ∃ (a : Addr) (zs : List Str), vs = [.ref a] ∧ H a = some (SetZO w a zs) ∧ zs.length ≤ sizeLine ∧
  ∀ (p : Addr) (ys : List Str), ys.Perm zs → H p = none → Q (.ref p) (upd H p (.lst (ys.map V.str)))
section
variable {X : Cx}
theorem cr_setZ (hc : X.calm = true) : CallR X (.type "set") (rSetZ X.K X.w) := by
  rintro pins s σ H _ us Q I r ⟨l, xs, rfl, hq, room, q⟩
  rw [Vals.ref1 r]
  obtain ⟨its, rv, p, _⟩ := I.list hq
  refine call_setZ (I.ok.hd hc) p.isList (vals_strsAre (by simpa using rv)) room fun h' tk ⟨zs, R, hl, hm, old⟩ => ?_
  exact ⟨.ref s.heap.objs.size, _, I.laid (t' := tk) old (Nat.le_refl _) (setZO_new R), rfl, q _ zs hl hm (I.hok.fresh (Nat.le_refl _))⟩
theorem cr_sortedZ (hc : X.calm = true) : CallR X (.builtin "sorted") (rSortedZ X.w) := by
  rintro pins s σ H _ us Q I r ⟨a, zs, rfl, ha, few, q⟩
  rw [Vals.ref1 r]
  have R : SetZ X.w s.heap a zs := (I.hok a _ ha).1
  refine call_sortedZ (I.ok.hd hc) R fun s' p out c ys old g o big hp hy py => ?_
  have len : (ys.map V.str).length ≤ sizeLine := by rw [List.length_map, py.length_eq]; exact few
  have new : H p = none := I.hok.fresh big
  have J : Inv X pins σ (upd H p (.lst (ys.map V.str))) s' :=
    I.call' (ch := []) o (Un.laid old big new) (I.hok.laid old big ⟨len, out.toList, c, strsAre_vals hy, hp⟩) (by rw [g]; exact I.bare) (fun _ z => nomatch z)
  exact ⟨.ref p, _, J, rfl, q p ys py new⟩
end
end Pm
namespace Pm
open L2 PySem PySem.Spec PyProof.Rows
/-! ### the text by places -/
def topS (i : Nat) : Stmt := PySem.Challenge.pw_palbuilds_k53_whole_mends.main.body.getD i (.Pass ⟨0, 0, 0, 0⟩)
abbrev sFirst : Stmt := topS 7
abbrev sNeedWord : Stmt := topS 8
abbrev sNeedMend : Stmt := topS 11
abbrev sInner : Stmt := topS 12
abbrev sPutIn : Stmt := topS 13
abbrev sLeftM : Stmt := topS 14
abbrev sLeast : Stmt := topS 15
abbrev sFewest : Stmt := topS 16
abbrev sChanged : Stmt := topS 17
abbrev sTaken : Stmt := topS 19
abbrev sAlike : Stmt := topS 20
abbrev sPlan : Stmt := topS 21
abbrev sWordOf : Stmt := topS 22
abbrev sSizes : Stmt := topS 23
abbrev sFast : Stmt := topS 24
abbrev sLaw : Stmt := topS 25
/-! ### texts as lists of signs -/
def S (l : List Nat) : Str := ⟨l.toArray⟩
theorem S_list (l : List Nat) : (S l).cps.toList = l := rfl
theorem S_len (l : List Nat) : (S l).length = l.length := by
  show l.toArray.size = l.length
  exact List.size_toArray
theorem S_at (l : List Nat) (i : Nat) : (S l).cps[i]? = l[i]? := by
  show l.toArray[i]? = l[i]?
  exact List.getElem?_toArray
theorem S_of (z : Str) : S z.cps.toList = z := by
  cases z
  rfl
theorem S_inj {l m : List Nat} (h : S l = S m) : l = m := by
  have := congrArg (fun z => z.cps.toList) h
  exact this
abbrev Let (l : List Nat) : Prop := ∀ c, c ∈ l → c = 97 ∨ c = 98 ∨ c = 99 ∨ c = 100 ∨ c = 101
theorem abcde : (PySem.Str.ofString "abcde").cps.toList = [97, 98, 99, 100, 101] := by decide +kernel
theorem small {n : Nat} (h : n ≤ 100000) : n ≤ sizeLine := Nat.le_trans h (by decide)
theorem smallL {n : Nat} (h : n ≤ 100000) : n < sizeLine := Nat.lt_of_le_of_lt h (by decide)
theorem same_new {H : Hp} {p : Addr} (h : H p = none) (o : HO) : Same H (upd H p o) := fun b x e => by
  rw [upd_ne (ne_of_none e h)]
  exact e
section
variable {w : World} {P : Program} {K : PySem.W.Frag} {base : Heap} {mg : Str → Option Value}
/-! ### first_wrong -/
theorem scFirst : FnScope ["value", "place", "sign"] ["value"] (defScope sFirst) := ⟨rfl, rfl, rfl, by decide +kernel, rfl, by decide +kernel, by decide +kernel⟩
/-- called with a word, answers None; nothing that was there changes -/
def spFirst : Sp := fun vs H Q _ => ∃ l : List Nat, vs = [.str (S l)] ∧ Let l ∧ ∀ H', Same H H' → Q .non H'
theorem ok_first {f : Addr} {fd : FuncData} {k : Nat} (F : Fun K "first_wrong" "first_wrong" sFirst f fd) (me : mg "enumerate" = none) {tk : Tok} (mL : mg "LETTERS" = some (.str "abcde" tk)) :
    FnOk P w K mg base CX0 (k + 1) f fd ["value"] spFirst := by
  refine F.ok scFirst (fun vs H Q E h => ?_) (fun cdv A outer s H vs Q E hr h => ?_)
  · obtain ⟨l, rfl, _⟩ := h
    rfl
  · obtain ⟨l, rfl, hl, q⟩ := h
    refine ⟨_, pss_cons (ps_for PassesOwn.never rfl (pi_enumS (by rfl) me (pa_cons (pv 0) pa_nil))
        (pg_tup rfl (pgs_cons (pg_name (i := 1) scFirst.nd rfl (.inl rfl)) (pgs_cons (pg_name (i := 2) scFirst.nd rfl (.inl rfl)) pgs_nil)))
        (pss_one (ps_if (pt_cmpR op_notIn_sign (pv 2) (pe_glob (v := .str "abcde") (by rfl) mL ⟨_, rfl⟩) rfl) (pss_one (ps_ret (pv 1))) pss_nil)))
      (pss_one (ps_ret pe_non)), ?_⟩
    refine ⟨.str (S l), rfl, S l, rfl, for_it walkP (fun i σ H' => ∃ y1 y2, σ = [some (.str (S l)), y1, y2] ∧ Same H H') ⟨none, none, rfl, Same.refl H⟩ (fun _ _ _ _ _ => trivial) (fun i v σ H1 H2 hi p y => ?_) (fun σ H' p => ?_)⟩
    · obtain ⟨y1, y2, rfl, sm⟩ := p
      obtain ⟨T, x1, x2, rfl, nT, rfl, c, rfl, rfl, hc⟩ := y
      have inl : c ∈ l := List.mem_of_getElem? ((S_at l i).symm.trans hc)
      refine ⟨T, _, rfl, .inl (.inl upd_same), rfl, _, _, rfl, _, _, rfl, rfl, _, rfl, c, _, rfl, rfl, _, rfl, ?_⟩
      have yes : c ∈ (PySem.Str.ofString "abcde").cps.toList := by
        rw [abcde]
        rcases hl c inl with h | h | h | h | h <;> subst h <;> decide
      refine iteNS yes ⟨_, _, rfl, sm.trans (same_new nT _)⟩
    · obtain ⟨y1, y2, rfl, sm⟩ := p
      exact q H' sm
/-! ### need_word, need_mend -/
theorem scNeedWord : FnScope ["value"] ["value"] (defScope sNeedWord) := ⟨rfl, rfl, rfl, by decide +kernel, rfl, by decide +kernel, by decide +kernel⟩
theorem scNeedMend : FnScope ["word"] ["word"] (defScope sNeedMend) := ⟨rfl, rfl, rfl, by decide +kernel, rfl, by decide +kernel, by decide +kernel⟩
def spNeed (most : Nat) : Sp := fun vs H Q _ => ∃ l : List Nat, vs = [.str (S l)] ∧ Let l ∧ l.length ≤ most ∧ ∀ H', Same H H' → Q .non H'
theorem ok_needWord {f g : Addr} {fd gd : FuncData} (F : Fun K "need_word" "need_word" sNeedWord f fd) (G : FnOk P w K mg base CX0 1 g gd ["value"] spFirst) (bG : Binds K gd ["value"] []) (kG : PySem.W.keepIn K (.ref g) = true) (mG : mg "first_wrong" = some (.ref g))
    (mi : mg "isinstance" = none) (ms : mg "str" = none) (ml : mg "len" = none) {tk : Tok} (mW : mg "MOST_WORD" = some (.int 2000 tk)) : FnOk P w K mg base CX0 2 f fd ["value"] (spNeed 2000) := by
  refine F.ok scNeedWord (fun vs H Q E h => ?_) (fun cdv A outer s H vs Q E hr h => ?_)
  · obtain ⟨l, rfl, _⟩ := h
    rfl
  · obtain ⟨l, rfl, hl, len, q⟩ := h
    refine ⟨_, pss_cons (ps_if (PW.pt (pw_or (pt_not (pt_val (pe_callB call_isi (by rfl) mi (by decide +kernel) (pa_cons (pv 0) (pa_cons (pe_bltn (v := .ty "str") (by rfl) ms (by decide +kernel) rfl) pa_nil)))))
        (pw_or1 (pt_cmpR op_gt (pe_callB call_len (by rfl) ml PySem.boot_len (pa_cons (pv 0) pa_nil)) (pe_glob (v := .int 2000) (by rfl) mW ⟨_, rfl⟩) (nomark _))))) (pss_one ps_never) pss_nil)
      (pss_one (ps_if (pt_cmpR op_notN (pe_call G hr (by rfl) mG kG bG .nil pass0 (pa_cons (pv 0) pa_nil)) pe_non (nomark _)) (pss_one ps_never) pss_nil)), ?_⟩
    refine ⟨_, rfl, .str (S l), .ty "str", .type "str", .type "str", true, rfl, .ty "str", .base (.str _), kit_ty (by decide +kernel), true, rfl, iteF ?_⟩
    refine ⟨_, rfl, .str (S l), _, rfl, ⟨small (by rw [S_len]; omega), rfl⟩, _, _, rfl, rfl, _, rfl, ite2 (fun c => ?_) fun _ => ?_⟩
    · have := of_decide_eq_true c
      rw [S_len] at this
      omega
    · refine ⟨_, rfl, l, rfl, hl, fun H' sm => ⟨rfl, _, rfl, iteF ?_⟩⟩
      exact q H' sm
theorem ok_needMend {f g : Addr} {fd gd : FuncData} (F : Fun K "need_mend" "need_mend" sNeedMend f fd) (G : FnOk P w K mg base CX0 2 g gd ["value"] (spNeed 2000)) (bG : Binds K gd ["value"] []) (kG : PySem.W.keepIn K (.ref g) = true) (mG : mg "need_word" = some (.ref g))
    (ml : mg "len" = none) {tk : Tok} (mW : mg "MOST_MEND" = some (.int 200 tk)) : FnOk P w K mg base CX0 3 f fd ["word"] (spNeed 200) := by
  refine F.ok scNeedMend (fun vs H Q E h => ?_) (fun cdv A outer s H vs Q E hr h => ?_)
  · obtain ⟨l, rfl, _⟩ := h
    rfl
  · obtain ⟨l, rfl, hl, len, q⟩ := h
    refine ⟨_, pss_cons (ps_expr (pe_call G hr (by rfl) mG kG bG .nil pass0 (pa_cons (pv 0) pa_nil)))
      (pss_one (ps_if (pt_cmpR op_gt (pe_callB call_len (by rfl) ml PySem.boot_len (pa_cons (pv 0) pa_nil)) (pe_glob (v := .int 200) (by rfl) mW ⟨_, rfl⟩) (nomark _)) (pss_one ps_never) pss_nil)), ?_⟩
    refine ⟨_, rfl, l, rfl, hl, by omega, fun H' sm => ?_⟩
    refine ⟨_, rfl, .str (S l), _, rfl, ⟨small (by rw [S_len]; omega), rfl⟩, _, _, rfl, rfl, _, rfl, ite2 (fun c => ?_) fun _ => q H' sm⟩
    have := of_decide_eq_true c
    rw [S_len] at this
    omega
end
end Pm
namespace Pm
open L2 PySem PySem.Spec PyProof.Rows
def sg (c : Nat) : Str := ⟨#[c]⟩
theorem revS_S (l : List Nat) : revS (S l) = S l.reverse := by
  unfold revS S
  rw [List.reverse_toArray]
theorem joinL_ones : ∀ l : List Nat, TL.joinL [] (l.map fun c => [c]) = l
  | [] => rfl
  | [c] => rfl
  | c :: d :: l => by
    show [c] ++ [] ++ TL.joinL [] ((d :: l).map fun c => [c]) = c :: d :: l
    rw [joinL_ones (d :: l)]
    rfl
theorem join_signs (l : List Nat) : Txt.join "" (l.map sg) = S l := by
  rw [TL.join_eq]
  have h : TL.tl (Str.join "" (l.map sg)) = l := by
    rw [TL.tl_join, List.map_map]
    exact joinL_ones l
  rw [← S_of (Str.join "" (l.map sg))]
  exact congrArg S h
theorem len_signs (l : List Nat) : ((l.map sg).map (·.length)).sum = l.length := by
  induction l with
  | nil => rfl
  | cons c l ih =>
    show 1 + ((l.map sg).map (·.length)).sum = l.length + 1
    rw [ih]
    omega
theorem hu2 {A : Around} {k : Nat} (hr : Room k A) : A.units + 2 < cLine := Nat.lt_of_le_of_lt (Nat.add_le_add_left (by decide : 2 ≤ 64) _) hr.units
theorem minS2_sg (c d : Nat) : minS2 (sg c) (sg d) = sg (if d < c then d else c) := by
  unfold minS2
  have e : ltS (sg d) (sg c) ↔ d < c := by
    show ([d] : List Nat) < [c] ↔ d < c
    rw [List.cons_lt_cons_iff]
    simp
  by_cases h : d < c
  · rw [if_pos h, decide_eq_true (e.mpr h), if_pos rfl]
  · rw [if_neg h, decide_eq_false (fun z => h (e.mp z)), if_neg (by decide)]
/-- how many places of two lists differ -/
def chg (a b : List Nat) : Nat := (a.zip b).countP fun p => p.1 != p.2
def lows (a b : List Nat) : List Nat := (a.zip b).map fun p => if p.2 < p.1 then p.2 else p.1
section
variable {w : World} {P : Program} {K : PySem.W.Frag} {base : Heap} {mg : Str → Option Value}
theorem scFewest : FnScope ["word", "one", "other"] ["word"] (defScope sFewest) := ⟨rfl, rfl, rfl, by decide +kernel, rfl, by decide +kernel, by decide +kernel⟩
theorem scChanged : FnScope ["word", "one", "other"] ["word"] (defScope sChanged) := ⟨rfl, rfl, rfl, by decide +kernel, rfl, by decide +kernel, by decide +kernel⟩
def spFewest : Sp := fun vs H Q _ => ∃ l : List Nat, vs = [.str (S l)] ∧ Let l ∧ l.length ≤ 2000 ∧ ∀ H', Same H H' → Q (.int ((chg l l.reverse : Int).fdiv 2)) H'
def spChanged : Sp := fun vs H Q _ => ∃ l : List Nat, vs = [.str (S l)] ∧ Let l ∧ l.length ≤ 2000 ∧ ∀ H', Same H H' → Q (.str (S (lows l l.reverse))) H'
theorem zip_at {l m : List Nat} {i c d : Nat} (h : l[i]? = some c) (h' : m[i]? = some d) : (l.zip m)[i]? = some (c, d) := List.getElem?_zip_eq_some.mpr ⟨h, h'⟩
theorem ok_fewest {f g : Addr} {fd gd : FuncData} (F : Fun K "fewest_changed" "fewest_changed" sFewest f fd) (G : FnOk P w K mg base CX0 2 g gd ["value"] (spNeed 2000)) (bG : Binds K gd ["value"] []) (kG : PySem.W.keepIn K (.ref g) = true) (mG : mg "need_word" = some (.ref g))
    (ml : mg "len" = none) (mz : mg "zip" = none) : FnOk P w K mg base CX0 3 f fd ["word"] spFewest := by
  refine F.ok scFewest (fun vs H Q E h => ?_) (fun cdv A outer s H vs Q E hr h => ?_)
  · obtain ⟨l, rfl, _⟩ := h
    rfl
  · obtain ⟨l, rfl, hl, len, q⟩ := h
    refine ⟨_, pss_cons (ps_expr (pe_call G hr (by rfl) mG kG bG .nil pass0 (pa_cons (pv 0) pa_nil)))
      (pss_one (ps_ret (pe_op op_fdivN (pe_callB call_len_seq (by rfl) ml PySem.boot_len (pa_cons
        (pe_lc (own := [("one", 1), ("other", 2)]) (g := gTup K 2 (gCons (gName 1) (gCons (gName 2) gNil))) rfl scFewest.nd (pi_zipS (by rfl) mz (pa_cons (pv 0) (pa_cons (pe_revS (pv 0)) pa_nil)))
          (blkOk_by (own := [("one", 1), ("other", 2)]) (N := ["word", "one", "other"]) (sc := defScope sFewest) (by decide +kernel))
          (fun _ _ _ _ _ => pg_tup (n := 2) rfl (pgs_cons (pg_name (i := 1) scFewest.nd rfl (.inl rfl)) (pgs_cons (pg_name (i := 2) scFewest.nd rfl (.inl rfl)) pgs_nil)))
          (fun _ _ _ _ _ => pts_one (pt_cmpR op_ne (pv 1) (pv 2) (nomark _))) (fun _ _ _ _ _ => pe_int)) pa_nil)) pe_int))), ?_⟩
    refine ⟨_, rfl, l, rfl, hl, len, fun H1 s1 => ?_⟩
    refine ⟨_, rfl, _, rfl, S l, rfl, small (by rw [S_len]; omega), S l, revS (S l), rfl, ?_, fun D nD => ?_⟩
    · rw [revS_S]
      show l.toArray.size = l.reverse.toArray.size
      simp
    have sz : (S l).cps.size = l.length := S_len l
    refine lc_it walkP (fun i H' => Same H1 H' ∧ ∃ xs : List V, H' D = some (.lst xs) ∧ xs.length = ((l.zip l.reverse).take i).countP fun p => p.1 != p.2)
      ⟨same_new nD _, [], upd_same, by simp⟩ (fun _ _ _ _ => trivial) (fun i v H2 H3 hi p y => ?_) (fun H' p => ?_)
    · obtain ⟨sm, xs, hD, hx⟩ := p
      obtain ⟨T, x1, x2, rfl, nT, rfl, c, d, rfl, rfl, hc, hd⟩ := y
      rw [S_at] at hc
      rw [revS_S, S_at] at hd
      have hz := zip_at hc hd
      have sT := same_new nT (.tup [.str ⟨#[c]⟩, .str ⟨#[d]⟩])
      have up : (((l.zip l.reverse).take (i + 1)).countP fun p => p.1 != p.2) = xs.length + if c != d then 1 else 0 := by
        rw [List.take_add_one, hz, List.countP_append, ← hx]
        simp
      refine ⟨T, _, rfl, .inl (.inl upd_same), rfl, _, _, rfl, _, _, rfl, rfl, rfl, _, rfl, _, rfl, rfl, _, rfl, ?_⟩
      by_cases e : c = d
      · subst e
        refine ite2 (fun h => ?_) fun _ => ⟨sm.trans sT, xs, sT _ _ hD, ?_⟩
        · simp at h
        · rw [up]
          simp
      · refine ite2 (fun _ => ⟨xs, sT _ _ hD, ?_, ?_⟩) fun h => ?_
        · have : xs.length ≤ 2000 := by
            rw [hx]
            refine Nat.le_trans List.countP_le_length ?_
            simp
            omega
          exact smallL (by omega)
        · refine ⟨(fun b o eb => ?_), _, upd_same, ?_⟩
          · have nb : b ≠ D := ne_of_none eb nD
            rw [upd_ne nb]
            exact sT _ _ (sm _ _ eb)
          · rw [up, List.length_append, if_pos (by simpa using e)]
            rfl
        · exact absurd (by simp [sg, e]) h
    · obtain ⟨sm, xs, hD, hx⟩ := p
      rw [sz, List.take_of_length_le (by simp)] at hx
      refine ⟨D, xs, rfl, .inl (SqL.of hD), _, _, rfl, rfl, ⟨by decide, by decide⟩, ?_⟩
      rw [hx]
      exact q H' (s1.trans sm)
theorem ok_changed {f g : Addr} {fd gd : FuncData} (F : Fun K "changed_mirror" "changed_mirror" sChanged f fd) (G : FnOk P w K mg base CX0 2 g gd ["value"] (spNeed 2000)) (bG : Binds K gd ["value"] []) (kG : PySem.W.keepIn K (.ref g) = true) (mG : mg "need_word" = some (.ref g))
    (mm : mg "min" = none) (mz : mg "zip" = none) : FnOk P w K mg base CX0 3 f fd ["word"] spChanged := by
  refine F.ok scChanged (fun vs H Q E h => ?_) (fun cdv A outer s H vs Q E hr h => ?_)
  · obtain ⟨l, rfl, _⟩ := h
    rfl
  · obtain ⟨l, rfl, hl, len, q⟩ := h
    refine ⟨_, pss_cons (ps_expr (pe_call G hr (by rfl) mG kG bG .nil pass0 (pa_cons (pv 0) pa_nil)))
      (pss_one (ps_ret (pe_join pe_str
        (pe_lc (own := [("one", 1), ("other", 2)]) (g := gTup K 2 (gCons (gName 1) (gCons (gName 2) gNil))) rfl scChanged.nd (pi_zipS (by rfl) mz (pa_cons (pv 0) (pa_cons (pe_revS (pv 0)) pa_nil)))
          (blkOk_by (own := [("one", 1), ("other", 2)]) (N := ["word", "one", "other"]) (sc := defScope sChanged) (by decide +kernel))
          (fun _ _ _ _ _ => pg_tup (n := 2) rfl (pgs_cons (pg_name (i := 1) scChanged.nd rfl (.inl rfl)) (pgs_cons (pg_name (i := 2) scChanged.nd rfl (.inl rfl)) pgs_nil)))
          (fun _ _ _ _ _ => pts_nil) (fun _ _ _ _ _ => pe_callB (call_min2S rfl (hu2 hr)) (by rfl) mm (by decide +kernel) (pa_cons (pv 1) (pa_cons (pv 2) pa_nil))))))), ?_⟩
    refine ⟨_, rfl, l, rfl, hl, len, fun H1 s1 => ?_⟩
    refine ⟨⟨_, rfl⟩, _, rfl, _, rfl, S l, rfl, small (by rw [S_len]; omega), S l, revS (S l), rfl, ?_, fun D nD => ?_⟩
    · rw [revS_S]
      show l.toArray.size = l.reverse.toArray.size
      simp
    have sz : (S l).cps.size = l.length := S_len l
    have szz : (lows l l.reverse).length = l.length := by
      unfold lows
      simp
    refine lc_it walkP (fun i H' => Same H1 H' ∧ H' D = some (.lst ((((lows l l.reverse).take i).map sg).map V.str)))
      ⟨same_new nD _, upd_same⟩ (fun _ _ _ _ => trivial) (fun i v H2 H3 hi p y => ?_) (fun H' p => ?_)
    · obtain ⟨sm, hD⟩ := p
      obtain ⟨T, x1, x2, rfl, nT, rfl, c, d, rfl, rfl, hc, hd⟩ := y
      rw [S_at] at hc
      rw [revS_S, S_at] at hd
      have hz : (lows l l.reverse)[i]? = some (if d < c then d else c) := by
        unfold lows
        rw [List.getElem?_map, zip_at hc hd]
        rfl
      have sT := same_new nT (.tup [.str ⟨#[c]⟩, .str ⟨#[d]⟩])
      refine ⟨T, _, rfl, .inl (.inl upd_same), rfl, _, _, rfl, _, _, rfl, rfl, rfl, ?_⟩
      refine ⟨_, rfl, _, rfl, sg c, sg d, rfl, _, sT _ _ hD, ?_, ?_, ?_⟩
      · rw [List.length_map, List.length_map]
        refine smallL (Nat.le_trans (List.length_take_le _ _) ?_)
        rw [sz] at hi
        omega
      · intro b o eb
        have nb : b ≠ D := ne_of_none eb nD
        rw [upd_ne nb]
        exact sT _ _ (sm _ _ eb)
      · rw [upd_same, List.take_add_one, hz, minS2_sg, List.map_append, List.map_append]
        rfl
    · obtain ⟨sm, hD⟩ := p
      rw [sz, List.take_of_length_le (by rw [szz]; exact Nat.le_refl _)] at hD
      refine ⟨"", D, _, rfl, rfl, .inl (SqL.of hD), ?_, ?_⟩
      · rw [len_signs, szz]
        show l.length + _ * 0 ≤ _
        omega
      · rw [join_signs]
        exact q H' (s1.trans sm)
end
end Pm
namespace Pm
open L2 PySem PySem.Spec PyProof.Rows
def keyI (i j : Int) : List Key := [.inl i, .inl j]
theorem keyI_inj {i j i' j' : Int} : keyI i j = keyI i' j' ↔ i = i' ∧ j = j' := by
  unfold keyI
  constructor
  · intro h
    injection h with h1 h2
    injection h2 with h2 _
    injection h1 with h1
    injection h2 with h2
    exact ⟨h1, h2⟩
  · rintro ⟨rfl, rfl⟩
    rfl
/-- what the dict tells of the pieces at which p holds -/
def Told (l : List Nat) (kvs : List (List Key × V)) (p : Nat → Nat → Prop) : Prop := ∀ a b : Nat, p a b → valV kvs (keyI a b) = some (.int (lps l (b - a) a : Nat))
theorem Told.put {l : List Nat} {kvs : List (List Key × V)} {p p' : Nat → Nat → Prop} (h : Told l kvs p) {i j : Int} {a b : Nat} (ei : i = a) (ej : j = b) {v : Int} (ev : v = (lps l (b - a) a : Nat)) (hp : ∀ c d, p' c d → p c d ∨ (c = a ∧ d = b)) :
    Told l (putK kvs (keyI i j) (.int v)) p' := by
  intro c d q
  subst ei ej ev
  rw [valV_put]
  by_cases e : keyI c d = keyI a b
  · rw [if_pos e]
    obtain ⟨e1, e2⟩ := keyI_inj.mp e
    have e1 : c = a := by omega
    have e2 : d = b := by omega
    rw [e1, e2]
  · rw [if_neg e]
    rcases hp c d q with h1 | ⟨rfl, rfl⟩
    · exact h c d h1
    · exact absurd rfl e
theorem Told.get {l : List Nat} {kvs : List (List Key × V)} {p : Nat → Nat → Prop} (h : Told l kvs p) {i j : Int} (a b : Nat) (ei : i = a) (ej : j = b) (hp : p a b) : valV kvs (keyI i j) = some (.int (lps l (b - a) a : Nat)) := by
  subst ei ej
  exact h a b hp
theorem sign_at {l : List Nat} {i : Nat} (h : i < l.length) : (S l).cps[i]? = some (l.getD i 0) := by
  rw [S_at, List.getD_eq_getElem?_getD, List.getElem?_eq_getElem h]
  rfl
theorem same_put {H H1 : Hp} {d : Addr} {o : HO} (nd : H d = none) (sm : Same H H1) : Same H (upd H1 d o) := fun b x e => by
  rw [upd_ne (ne_of_none e nd)]
  exact sm b x e
theorem keep_new {H1 : Hp} {d T : Addr} {x o : HO} (hd : H1 d = some x) (nT : H1 T = none) : upd H1 T o d = some x := by
  rw [upd_ne (ne_of_none hd nT)]
  exact hd
section
variable {w : World} {P : Program} {K : PySem.W.Frag} {base : Heap} {mg : Str → Option Value}
theorem scInner : FnScope ["word", "found", "start", "end"] ["word"] (defScope sInner) := ⟨rfl, rfl, rfl, by decide +kernel, rfl, by decide +kernel, by decide +kernel⟩
def AllIn (n a b : Nat) : Prop := a ≤ b ∧ b ≤ n
def spInner : Sp := fun vs H Q _ => ∃ l : List Nat, vs = [.str (S l)] ∧ l.length ≤ 200 ∧ ∀ H' p kvs, Same H H' → H' p = some (.dT kvs) → Told l kvs (AllIn l.length) → Q (.ref p) H'
theorem ok_inner {f : Addr} {fd : FuncData} (F : Fun K "inner_of" "inner_of" sInner f fd) (ml : mg "len" = none) (mr : mg "range" = none) (mm : mg "max" = none) : FnOk P w K mg base CX0 1 f fd ["word"] spInner := by
  refine F.ok scInner (fun vs H Q E h => ?_) (fun cdv A outer s H vs Q E hr h => ?_)
  · obtain ⟨l, rfl, _⟩ := h
    rfl
  · obtain ⟨l, rfl, len, q⟩ := h
    refine ⟨_, pss_cons (ps_set (i := 1) scInner.nd rfl (.inl rfl) pe_dnewT)
      (pss_cons (ps_for PassesOwn.never rfl
          (pi_range3 (by rfl) mr (pa_cons (pe_callB call_len (by rfl) ml PySem.boot_len (pa_cons (pv 0) pa_nil)) (pa_cons (pe_un un_neg pe_int) (pa_cons (pe_un un_neg pe_int) pa_nil))))
          (pg_name (i := 2) scInner.nd rfl (.inl rfl))
          (pss_cons (ps_dput (hu_of hr) (pv 1) (pe_tup (pa_cons (pv 2) (pa_cons (pv 2) pa_nil))) pe_int rfl)
          (pss_one (ps_for PassesOwn.never rfl
            (pi_range2 (by rfl) mr (pa_cons (pe_op op_add (pv 2) pe_int) (pa_cons (pe_op op_add (pe_callB call_len (by rfl) ml PySem.boot_len (pa_cons (pv 0) pa_nil)) pe_int) pa_nil)))
            (pg_name (i := 3) scInner.nd rfl (.inl rfl))
            (pss_one (ps_if (pt_cmpR op_eq (pv 3) (pe_op op_add (pv 2) pe_int) (nomark _))
              (pss_one (ps_dput (hu_of hr) (pv 1) (pe_tup (pa_cons (pv 2) (pa_cons (pv 3) pa_nil))) pe_int rfl))
              (pss_one (ps_if (pt_cmpR op_eq (pe_item_str (pv 0) (pv 2) (fun _ _ => rfl)) (pe_item_str (pv 0) (pe_op op_sub (pv 3) pe_int) (fun _ _ => rfl)) (nomark _))
                (pss_one (ps_dput (hu_of hr) (pv 1) (pe_tup (pa_cons (pv 2) (pa_cons (pv 3) pa_nil)))
                  (pe_op op_add (pe_dget (hu_of hr) (pv 1) (pe_tup (pa_cons (pe_op op_add (pv 2) pe_int) (pa_cons (pe_op op_sub (pv 3) pe_int) pa_nil))) (fun _ _ => rfl)) pe_int) rfl))
                (pss_one (ps_dput (hu_of hr) (pv 1) (pe_tup (pa_cons (pv 2) (pa_cons (pv 3) pa_nil)))
                  (pe_callB (call_max2 rfl) (by rfl) mm (by decide +kernel) (pa_cons (pe_dget (hu_of hr) (pv 1) (pe_tup (pa_cons (pe_op op_add (pv 2) pe_int) (pa_cons (pv 3) pa_nil))) (fun _ _ => rfl))
                    (pa_cons (pe_dget (hu_of hr) (pv 1) (pe_tup (pa_cons (pv 2) (pa_cons (pe_op op_sub (pv 3) pe_int) pa_nil))) (fun _ _ => rfl)) pa_nil))) rfl))))))))))
      (pss_one (ps_ret (pv 1)))), ?_⟩
    have sl : (S l).length = l.length := S_len l
    have z2 : 2 ≤ sizeLine := by decide
    have lenOk : (S l).length ≤ sizeLine := small (by omega)
    intro d nd
    have s0 : Same H (upd H d (.dT [])) := same_new nd _
    refine ⟨_, rfl, .str (S l), l.length, rfl, ⟨lenOk, sl.symm⟩, 1, rfl, 1, rfl, l.length, -1, -1, _, rfl, RgC.neg (by omega) (by omega) (by decide) (by decide), ?_⟩
    refine for_rangeC (fun i σ H' => ∃ y2 y3 kvs, σ = [some (.str (S l)), some (.ref d), y2, y3] ∧ Same H H' ∧ H' d = some (.dT kvs) ∧ kvs.length ≤ i * 201 ∧ Told l kvs (fun a b => AllIn l.length a b ∧ l.length + 1 ≤ a + i))
      ⟨none, none, [], rfl, s0, upd_same, by simp, fun a b h => absurd h.2 (by have := h.1.1; have := h.1.2; omega)⟩ (fun i σ H1 hi p => ?_) (fun σ H1 p => ?_)
    · obtain ⟨y2, y3, kvs, rfl, sm, hd, hlen, told⟩ := p
      have hi' : i ≤ l.length := by omega
      obtain ⟨a, ha⟩ : ∃ a : Nat, a + i = l.length := ⟨l.length - i, by omega⟩
      have ea : ((l.length : Int) + (i : Nat) * (-1)) = (a : Int) := by omega
      rw [ea]
      have i201 : i * 201 ≤ 40200 := by omega
      -- found[start, start] = 0
      refine ⟨_, rfl, _, rfl, _, rfl, z2, fun T nT => ?_⟩
      refine ⟨d, _, rfl, DPut.t (k := keyI a a) (keep_new hd nT) upd_same (smallL (by omega)), ?_⟩
      have sm1 : Same H (upd (upd H1 T (.tup [.int a, .int a])) d (.dT (putK kvs (keyI a a) (.int 0)))) := same_put nd (sm.trans (same_new nT _))
      have hd1 : (upd (upd H1 T (.tup [.int a, .int a])) d (.dT (putK kvs (keyI a a) (.int 0)))) d = some (.dT (putK kvs (keyI a a) (.int 0))) := upd_same
      have told1 : Told l (putK kvs (keyI a a) (.int 0)) (fun c b => AllIn l.length c b ∧ (a < c ∨ (c = a ∧ b ≤ a + 0))) := told.put (a := a) (b := a) rfl rfl (by rw [Nat.sub_self]; rfl) (fun c b h => by
        obtain ⟨⟨h1, h2⟩, h3⟩ := h
        rcases h3 with h3 | ⟨h3, h4⟩
        · exact .inl ⟨⟨h1, h2⟩, by omega⟩
        · exact .inr ⟨h3, by omega⟩)
      have len1 := length_putK kvs (keyI a a) (.int 0)
      generalize (upd (upd H1 T (.tup [.int a, .int a])) d (.dT (putK kvs (keyI a a) (.int 0)))) = H2 at sm1 hd1 ⊢
      generalize putK kvs (keyI a a) (.int 0) = kv2 at hd1 told1 len1
      -- the inner loop
      refine ⟨_, rfl, _, _, rfl, rfl, _, rfl, .str (S l), l.length, rfl, ⟨lenOk, sl.symm⟩, _, _, rfl, rfl, (a : Int) + 1, (l.length : Int) + 1, rfl, ⟨by omega, by omega, by omega, by omega⟩, ?_⟩
      refine for_range (fun j σ H' => ∃ y3 kvs, σ = [some (.str (S l)), some (.ref d), some (.int a), y3] ∧ Same H H' ∧ H' d = some (.dT kvs) ∧ kvs.length ≤ i * 201 + 1 + j ∧ Told l kvs (fun c b => AllIn l.length c b ∧ (a < c ∨ (c = a ∧ b ≤ a + j))))
        ⟨y3, kv2, rfl, sm1, hd1, by omega, told1⟩ (fun j σ H3 hj p => ?_) (fun σ H3 p => ?_)
      · obtain ⟨y3, kv3, rfl, sm3, hd3, len3, told3⟩ := p
        have hj' : a + j + 1 ≤ l.length := by omega
        have room : kv3.length < sizeLine := smallL (by omega)
        have fin : ∀ (H4 : Hp) (T : Addr) (v : Int), Same H H4 → H4 d = some (.dT kv3) → H4 T = some (.tup [.int a, .int ((a : Int) + 1 + j)]) → v = (lps l (j + 1) a : Nat) →
            ∃ y3 kvs, [some (V.str (S l)), some (.ref d), some (.int a), some (.int ((a : Int) + 1 + j))] = [some (.str (S l)), some (.ref d), some (.int a), y3] ∧ Same H (upd H4 d (.dT (putK kv3 (keyI a ((a : Int) + 1 + j)) (.int v)))) ∧
              (upd H4 d (.dT (putK kv3 (keyI a ((a : Int) + 1 + j)) (.int v)))) d = some (.dT kvs) ∧ kvs.length ≤ i * 201 + 1 + (j + 1) ∧ Told l kvs (fun c b => AllIn l.length c b ∧ (a < c ∨ (c = a ∧ b ≤ a + (j + 1)))) := by
          intro H4 T v sm4 hd4 hT ev
          refine ⟨_, _, rfl, same_put nd sm4, upd_same, ?_, ?_⟩
          · have := length_putK kv3 (keyI a ((a : Int) + 1 + j)) (.int v)
            omega
          · refine told3.put (a := a) (b := a + 1 + j) rfl (by omega) (by rw [ev]; congr 2; omega) (fun c b h => ?_)
            obtain ⟨⟨h1, h2⟩, h3⟩ := h
            rcases h3 with h3 | ⟨h3, h4⟩
            · exact .inl ⟨⟨h1, h2⟩, .inl h3⟩
            · by_cases hb : b ≤ a + j
              · exact .inl ⟨⟨h1, h2⟩, .inr ⟨h3, hb⟩⟩
              · exact .inr ⟨h3, by omega⟩
        refine ⟨_, rfl, _, rfl, _, _, rfl, rfl, rfl, _, rfl, ite2 (fun c => ?_) (fun c => ?_)⟩
        · have c' : ((a : Int) + 1 + j) = (a : Int) + 1 := V.int.inj (of_decide_eq_true c)
          have j0 : j = 0 := by omega
          subst j0
          refine ⟨_, rfl, _, rfl, _, rfl, z2, fun T nT => ⟨d, _, rfl, DPut.t (k := keyI a ((a : Int) + 1 + (0 : Nat))) (keep_new hd3 nT) upd_same room, fin _ T 1 (sm3.trans (same_new nT _)) (keep_new hd3 nT) upd_same rfl⟩⟩
        · have c' : ¬ ((a : Int) + 1 + j) = (a : Int) + 1 := fun e => c (decide_eq_true (congrArg V.int e))
          obtain ⟨k, rfl⟩ : ∃ k, j = k + 1 := ⟨j - 1, by omega⟩
          have e1 : (S l).cps[((a : Int) + 1 + ((k + 1 : Nat) : Int) - 1).toNat]? = some (l.getD (a + k + 1) 0) := by
            rw [show ((a : Int) + 1 + ((k + 1 : Nat) : Int) - 1).toNat = a + k + 1 by omega]
            exact sign_at (by omega)
          refine ⟨_, rfl, _, rfl, S l, a, _, rfl, rfl, by omega, by omega, by omega, sign_at (by omega), _, rfl, _, rfl, _, _, rfl, rfl, S l, _, _, rfl, rfl, by omega, by omega, by omega, e1, rfl, _, rfl, ?_⟩
          have g1 : valV kv3 (keyI ((a : Int) + 1) ((a : Int) + 1 + ((k + 1 : Nat) : Int) - 1)) = some (.int (lps l k (a + 1) : Nat)) := by
            rw [told3.get (a + 1) (a + 1 + k) (by omega) (by omega) ⟨⟨by omega, by omega⟩, .inl (by omega)⟩]
            congr 4
            omega
          have g2 : valV kv3 (keyI ((a : Int) + 1) ((a : Int) + 1 + ((k + 1 : Nat) : Int))) = some (.int (lps l (k + 1) (a + 1) : Nat)) := by
            rw [told3.get (a + 1) (a + 1 + (k + 1)) (by omega) (by omega) ⟨⟨by omega, by omega⟩, .inl (by omega)⟩]
            congr 4
            omega
          have g3 : valV kv3 (keyI (a : Int) ((a : Int) + 1 + ((k + 1 : Nat) : Int) - 1)) = some (.int (lps l (k + 1) a : Nat)) := by
            rw [told3.get a (a + (k + 1)) (by omega) (by omega) ⟨⟨by omega, by omega⟩, .inr ⟨rfl, by omega⟩⟩]
            congr 4
            omega
          refine ite2 (fun e => ?_) (fun e => ?_)
          · have e' : l.getD a 0 = l.getD (a + k + 1) 0 := by
              have := V.str.inj (of_decide_eq_true e)
              simpa using this
            refine ⟨_, rfl, _, rfl, _, _, rfl, rfl, _, rfl, _, _, rfl, rfl, z2, fun T nT => ?_⟩
            have g := DGet.t (k := keyI ((a : Int) + 1) ((a : Int) + 1 + ((k + 1 : Nat) : Int) - 1)) (keep_new (o := .tup [.int ((a : Int) + 1), .int ((a : Int) + 1 + ((k + 1 : Nat) : Int) - 1)]) hd3 nT) upd_same
            rw [g1] at g
            refine ⟨d, _, rfl, g, _, _, rfl, rfl, ?_⟩
            have hd4 := keep_new (o := .tup [.int ((a : Int) + 1), .int ((a : Int) + 1 + ((k + 1 : Nat) : Int) - 1)]) hd3 nT
            refine ⟨_, rfl, _, rfl, _, rfl, z2, fun T2 nT2 => ⟨d, _, rfl, DPut.t (k := keyI a ((a : Int) + 1 + ((k + 1 : Nat) : Int))) (keep_new hd4 nT2) upd_same room, ?_⟩⟩
            refine fin _ T2 _ ((sm3.trans (same_new nT _)).trans (same_new nT2 _)) (keep_new hd4 nT2) upd_same ?_
            rw [lps, if_pos e']
            rfl
          · have e' : ¬ l.getD a 0 = l.getD (a + k + 1) 0 := fun z => e (decide_eq_true (show V.str ⟨#[l.getD a 0]⟩ = V.str ⟨#[l.getD (a + k + 1) 0]⟩ by rw [z]))
            refine ⟨_, rfl, _, rfl, _, _, rfl, rfl, _, rfl, z2, fun T nT => ?_⟩
            have hd4 := keep_new (o := .tup [.int ((a : Int) + 1), .int ((a : Int) + 1 + ((k + 1 : Nat) : Int))]) hd3 nT
            have g := DGet.t (k := keyI ((a : Int) + 1) ((a : Int) + 1 + ((k + 1 : Nat) : Int))) hd4 upd_same
            rw [g2] at g
            refine ⟨d, _, rfl, g, ?_⟩
            refine ⟨_, rfl, _, rfl, _, rfl, _, _, rfl, rfl, z2, fun T2 nT2 => ?_⟩
            have hd5 := keep_new (o := .tup [.int (a : Int), .int ((a : Int) + 1 + ((k + 1 : Nat) : Int) - 1)]) hd4 nT2
            have g' := DGet.t (k := keyI (a : Int) ((a : Int) + 1 + ((k + 1 : Nat) : Int) - 1)) hd5 upd_same
            rw [g3] at g'
            refine ⟨d, _, rfl, g', _, _, rfl, ?_⟩
            refine ⟨_, rfl, _, rfl, _, rfl, z2, fun T3 nT3 => ⟨d, _, rfl, DPut.t (k := keyI a ((a : Int) + 1 + ((k + 1 : Nat) : Int))) (keep_new hd5 nT3) upd_same room, ?_⟩⟩
            refine fin _ T3 _ (((sm3.trans (same_new nT _)).trans (same_new nT2 _)).trans (same_new nT3 _)) (keep_new hd5 nT3) upd_same ?_
            rw [lps, if_neg e']
            split <;> omega
      · obtain ⟨y3, kv3, rfl, sm3, hd3, len3, told3⟩ := p
        refine ⟨_, _, kv3, rfl, sm3, hd3, by omega, fun c b h => told3 c b ⟨h.1, ?_⟩⟩
        have := h.1.1
        have := h.1.2
        omega
    · obtain ⟨y2, y3, kvs, rfl, sm, hd, hlen, told⟩ := p
      refine ⟨_, rfl, q H1 d kvs sm hd fun a b h => told a b ⟨h, ?_⟩⟩
      have := h.1
      have := h.2
      omega
end
end Pm
namespace Pm
open L2 PySem PySem.Spec PyProof.Rows
theorem cutS_S (l : List Nat) (a k : Nat) (h : a + k ≤ l.length) {i j : Int} (ei : i = a) (ej : j = (a + k : Nat)) : cutS (S l) (some i) (some j) = S (cutL l k a) := by
  subst ei ej
  unfold cutS
  rw [HT.sIx_nat, HT.sIx_nat, S_len, Nat.min_eq_left (by omega), Nat.min_eq_left (by omega), Nat.add_sub_cancel_left]
  rfl
/-- all but what stands at d is as it was -/
def Keep (d : Addr) (H H' : Hp) : Prop := ∀ x o, x ≠ d → H x = some o → H' x = some o
theorem Keep.refl (d : Addr) (H : Hp) : Keep d H H := fun _ _ _ h => h
theorem Keep.trans {d : Addr} {H H1 H2 : Hp} (a : Keep d H H1) (b : Keep d H1 H2) : Keep d H H2 := fun x o n h => b x o n (a x o n h)
theorem Keep.same {d : Addr} {H H' : Hp} (s : Same H H') : Keep d H H' := fun x o _ h => s x o h
theorem Keep.put {d : Addr} {H H1 : Hp} (a : Keep d H H1) (o : HO) : Keep d H (upd H1 d o) := fun x y n h => by
  rw [upd_ne n]
  exact a x y n h
/-- what the dict of known ones tells is so -/
def Mem (l : List Nat) (kks : List (List Key × V)) : Prop := ∀ (a b : Nat) (v : V), a ≤ b → b ≤ l.length → valV kks (keyI a b) = some v → v = .str (S (least l (b - a) a))
theorem Mem.put {l : List Nat} {kks : List (List Key × V)} (h : Mem l kks) {a b : Nat} {v : V} (ev : v = .str (S (least l (b - a) a))) : Mem l (putK kks (keyI a b) v) := by
  intro c d u h1 h2 e
  rw [valV_put] at e
  by_cases q : keyI c d = keyI a b
  · rw [if_pos q] at e
    obtain ⟨e1, e2⟩ := keyI_inj.mp q
    have e1 : c = a := by omega
    have e2 : d = b := by omega
    subst e1 e2
    rw [← Option.some.inj e]
    exact ev
  · rw [if_neg q] at e
    exact h c d u h1 h2 e
theorem S_app (x y : List Nat) : S x ++ S y = S (x ++ y) := by
  show (⟨x.toArray ++ y.toArray⟩ : Str) = ⟨(x ++ y).toArray⟩
  rw [List.append_toArray]
theorem cut_least {l : List Nat} {k a : Nat} (h : a + k ≤ l.length) (hk : k < 2) : cutL l k a = least l k a := by
  match k, hk with
  | 0, _ => simp [cutL, least]
  | 1, _ =>
    rw [cut_cons (by omega)]
    simp [cutL, least]
def cands (T1 T2 : Addr) (a : Nat) (c1 c2 : Bool) : List (Addr × Nat) := (if c1 then [(T1, a + 1)] else []) ++ (if c2 then [(T2, a)] else [])
def accs (T1 T2 : Addr) (c1 c2 : Bool) : Nat → List V
  | 0 => []
  | 1 => if c1 then [.ref T1] else []
  | _ => (if c1 then [.ref T1] else []) ++ (if c2 then [.ref T2] else [])
theorem accs_all (T1 T2 : Addr) (a : Nat) (c1 c2 : Bool) : accs T1 T2 c1 c2 2 = (cands T1 T2 a c1 c2).map fun p => V.ref p.1 := by
  cases c1 <;> cases c2 <;> rfl
theorem cands_mem {T1 T2 : Addr} {a : Nat} {c1 c2 : Bool} {p : Addr × Nat} (h : p ∈ cands T1 T2 a c1 c2) : p = (T1, a + 1) ∨ p = (T2, a) := by
  cases c1 <;> cases c2 <;> simp [cands] at h
  · exact .inr h
  · exact .inl h
  · exact h
theorem cands_len (T1 T2 : Addr) (a : Nat) (c1 c2 : Bool) : (cands T1 T2 a c1 c2).length ≤ 2 := by
  cases c1 <;> cases c2 <;> simp [cands]
abbrev isTop (l : List Nat) (k a s : Nat) : Bool := decide (lps l (k + 1) s = lps l (k + 2) a)
theorem ltS_S {x y : List Nat} : ltS (S x) (S y) ↔ x < y := Iff.rfl
theorem pick_ok {l : List Nat} {k a : Nat} (ne : ¬ l.getD a 0 = l.getD (a + k + 1) 0) (T1 T2 : Addr) :
    ((cands T1 T2 a (isTop l k a (a + 1)) (isTop l k a a)).map fun p => S (least l (k + 1) p.2)) ≠ [] ∧
    ∀ m, m ∈ ((cands T1 T2 a (isTop l k a (a + 1)) (isTop l k a a)).map fun p => S (least l (k + 1) p.2)) → (∀ y, y ∈ ((cands T1 T2 a (isTop l k a (a + 1)) (isTop l k a a)).map fun p => S (least l (k + 1) p.2)) → ¬ ltS y m) → m = S (least l (k + 2) a) := by
  have eM : lps l (k + 2) a = max (lps l (k + 1) (a + 1)) (lps l (k + 1) a) := by rw [lps, if_neg ne]
  have eL : least l (k + 2) a = if lps l (k + 1) (a + 1) = lps l (k + 2) a then if lps l (k + 1) a = lps l (k + 2) a then pickMin (least l (k + 1) (a + 1)) (least l (k + 1) a) else least l (k + 1) (a + 1) else least l (k + 1) a := by rw [least, if_neg ne]
  by_cases c1 : lps l (k + 1) (a + 1) = lps l (k + 2) a
  · by_cases c2 : lps l (k + 1) a = lps l (k + 2) a
    · rw [eL, if_pos c1, if_pos c2]
      simp only [isTop, c1, c2, decide_true, cands, if_true, List.cons_append, List.nil_append, List.map_cons, List.map_nil]
      refine ⟨by simp, fun m hm low => ?_⟩
      have h1 := low _ (List.mem_cons_self ..)
      have h2 := low _ (List.mem_cons_of_mem _ (List.mem_cons_self ..))
      unfold pickMin
      rcases List.mem_cons.mp hm with rfl | hm2
      · rw [if_neg (fun z => h2 (ltS_S.mpr z))]
      · have hm' := List.mem_singleton.mp hm2
        subst hm'
        by_cases c : least l (k + 1) a < least l (k + 1) (a + 1)
        · rw [if_pos c]
        · rw [if_neg c]
          exact congrArg S (eq_of_not_lt c (fun z => h1 (ltS_S.mpr z)))
    · rw [eL, if_pos c1, if_neg c2]
      simp only [isTop, c1, c2, decide_true, decide_false, cands, if_true, if_false, Bool.false_eq_true, List.append_nil, List.map_cons, List.map_nil]
      exact ⟨by simp, fun m hm _ => List.mem_singleton.mp hm⟩
  · have c2 : lps l (k + 1) a = lps l (k + 2) a := by omega
    rw [eL, if_neg c1]
    simp only [isTop, c1, c2, decide_true, decide_false, cands, if_true, if_false, Bool.false_eq_true, List.nil_append, List.map_cons, List.map_nil]
    exact ⟨by simp, fun m hm _ => List.mem_singleton.mp hm⟩
section
variable {w : World} {P : Program} {K : PySem.W.Frag} {base : Heap} {mg : Str → Option Value}
abbrev nLeast : List Str := ["word", "sizes", "start", "end", "known", "key", "found", "some", "pair", "one", "other"]
theorem scLeast : FnScope nLeast ["word", "sizes", "start", "end", "known"] (defScope sLeast) := ⟨rfl, rfl, rfl, by decide +kernel, rfl, by decide +kernel, by decide +kernel⟩
def spLeast (m : Nat) : Sp := fun vs H Q _ => ∃ (l : List Nat) (ds dk : Addr) (a b : Nat) (kvs kks : List (List Key × V)), vs = [.str (S l), .ref ds, .int a, .int b, .ref dk] ∧ l.length ≤ 200 ∧ a ≤ b ∧ b ≤ l.length ∧ b - a < m ∧ ds ≠ dk ∧
  H ds = some (.dT kvs) ∧ Told l kvs (AllIn l.length) ∧ H dk = some (.dT kks) ∧ Mem l kks ∧ kks.length + 2 ^ (b - a + 1) ≤ 100000 ∧
  ∀ H' kks', Keep dk H H' → H' dk = some (.dT kks') → Mem l kks' → kks'.length + 1 ≤ kks.length + 2 ^ (b - a + 1) → Q (.str (S (least l (b - a) a))) H'
abbrev pL : List Str := ["word", "sizes", "start", "end", "known"]
theorem none_least {f : Addr} {fd : FuncData} : FnOk P w K mg base CX0 0 f fd pL (spLeast 0) := by
  have no : ∀ vs H Q E, ¬ spLeast 0 vs H Q E := fun vs H Q E h => by
    obtain ⟨l, ds, dk, a, b, kvs, kks, _, _, _, _, h1, _⟩ := h
    omega
  exact ⟨fun vs H Q E h => absurd h (no vs H Q E), fun A outer s H args us vs Q E _ _ _ _ h => absurd h (no vs H Q E)⟩
theorem ok_least {f : Addr} {fd : FuncData} {m : Nat} (F : Fun K "least_left" "least_left" sLeast f fd) (G : FnOk P w K mg base CX0 m f fd pL (spLeast m)) (bG : Binds K fd pL []) (mG : mg "least_left" = some (.ref f)) (mm : mg "min" = none) :
    FnOk P w K mg base CX0 (m + 1) f fd pL (spLeast (m + 1)) := by
  refine F.ok scLeast (fun vs H Q E h => ?_) (fun cdv A outer s H vs Q E hr h => ?_)
  · obtain ⟨l, ds, dk, a, b, kvs, kks, rfl, _⟩ := h
    rfl
  · obtain ⟨l, ds, dk, a, b, kvs, kks, rfl, len, hab, hbn, hm, dne, hds, told, hdk, mem, room, q⟩ := h
    refine ⟨_, pss_cons (ps_set (i := 5) scLeast.nd rfl (.inr rfl) (pe_tup (pa_cons (pv 2) (pa_cons (pv 3) pa_nil))))
      (pss_cons (ps_if (pt_cmp (pc_din (hu_of hr) (pv 5) (pv 4))) (pss_one (ps_ret (pe_dget (hu_of hr) (pv 4) (pv 5) (fun _ _ => rfl)))) pss_nil)
      (pss_cons (ps_if (pt_cmpR op_lt (pe_op op_sub (pv 3) (pv 2)) pe_int (nomark _))
        (pss_one (ps_set (i := 6) scLeast.nd rfl (.inl rfl) (pe_slice sl_str (pv 0) (po_some (pv 2)) (po_some (pv 3)))))
        (pss_one (ps_if (pt_cmpR op_eq (pe_item_str (pv 0) (pv 2) (fun _ _ => rfl)) (pe_item_str (pv 0) (pe_op op_sub (pv 3) pe_int) (fun _ _ => rfl)) (nomark _))
          (pss_one (ps_set (i := 6) scLeast.nd rfl (.inl rfl) (pe_op op_add_str (pe_op op_add_str (pe_item_str (pv 0) (pv 2) (fun _ _ => rfl))
            (pe_call G hr (by rfl) mG F.kp bG .nil pass0 (pa_cons (pv 0) (pa_cons (pv 1) (pa_cons (pe_op op_add (pv 2) pe_int) (pa_cons (pe_op op_sub (pv 3) pe_int) (pa_cons (pv 4) pa_nil)))))))
            (pe_item_str (pv 0) (pv 2) (fun _ _ => rfl)))))
          (pss_cons (ps_setLc (i := 7) (own := [("pair", 8)]) (g := gName 8) rfl scLeast.nd rfl rfl (sw_true rfl rfl rfl (by decide +kernel))
              (pi_list (pe_lst (pa_cons (pe_tup (pa_cons (pe_op op_add (pv 2) pe_int) (pa_cons (pv 3) pa_nil))) (pa_cons (pe_tup (pa_cons (pv 2) (pa_cons (pe_op op_sub (pv 3) pe_int) pa_nil))) pa_nil))))
              (blkOk_by (own := [("pair", 8)]) (N := nLeast) (sc := defScope sLeast) (by decide +kernel))
              (fun _ _ _ _ _ => pg_name (i := 8) scLeast.nd rfl (.inl rfl))
              (fun _ _ _ _ _ => pts_one (pt_cmpR op_eq (pe_dget (hu_of hr) (pv 1) (pv 8) (fun _ _ => rfl)) (pe_dget (hu_of hr) (pv 1) (pv 5) (fun _ _ => rfl)) (nomark _)))
              (fun _ _ _ _ _ => pv 8))
          (pss_one (ps_set (i := 6) scLeast.nd rfl (.inl rfl) (pe_callB (cr_minS rfl (hu2 hr)) (by rfl) mm (by decide +kernel) (pa_cons
            (pe_lc (own := [("one", 9), ("other", 10)]) (g := gTup K 2 (gCons (gName 9) (gCons (gName 10) gNil))) rfl scLeast.nd (pi_list (pv 7))
              (blkOk_by (own := [("one", 9), ("other", 10)]) (N := nLeast) (sc := defScope sLeast) (by decide +kernel))
              (fun _ _ _ _ _ => pg_tup (n := 2) rfl (pgs_cons (pg_name (i := 9) scLeast.nd rfl (.inl rfl)) (pgs_cons (pg_name (i := 10) scLeast.nd rfl (.inl rfl)) pgs_nil)))
              (fun _ _ _ _ _ => pts_nil)
              (fun _ _ _ _ _ => pe_call G hr (by rfl) mG F.kp bG .nil pass0 (pa_cons (pv 0) (pa_cons (pv 1) (pa_cons (pv 9) (pa_cons (pv 10) (pa_cons (pv 4) pa_nil)))))))
            pa_nil))))))))
      (pss_cons (ps_dput (hu_of hr) (pv 4) (pv 5) (pv 6) rfl)
      (pss_one (ps_ret (pv 6)))))), ?_⟩
    have z2 : 2 ≤ sizeLine := by decide
    have sl : (S l).length = l.length := S_len l
    have lenOk : (S l).length ≤ sizeLine := small (by omega)
    have pos : 2 ≤ 2 ^ (b - a + 1) := by
      have : 1 ≤ 2 ^ (b - a) := Nat.one_le_two_pow
      omega
    -- key = (start, end)
    refine ⟨_, rfl, _, rfl, z2, fun T0 nT0 => ?_⟩
    have s1 : Same H (upd H T0 (.tup [.int a, .int b])) := same_new nT0 _
    have hT1 : (upd H T0 (.tup [.int a, .int b])) T0 = some (.tup ((keyI a b).map kV)) := upd_same
    have hds1 := s1 _ _ hds
    have hdk1 := s1 _ _ hdk
    generalize (upd H T0 (.tup [.int a, .int b])) = H1 at s1 hT1 hds1 hdk1 ⊢
    have T0dk : T0 ≠ dk := ne_of hT1 hdk1 (fun z => nomatch z)
    have fin : ∀ (H4 : Hp) (kk4 : List (List Key × V)) (y7 : Option V), Keep dk H1 H4 → H4 dk = some (.dT kk4) → Mem l kk4 → kk4.length + 2 ≤ kks.length + 2 ^ (b - a + 1) →
        (tSeq (sDPut (tVar 4) (tVar 5) (tVar 6)) (tRet (tVar 6))) { nx := fun x H' => Q V.non H', rt := Q }
          [some (.str (S l)), some (.ref ds), some (.int a), some (.int b), some (.ref dk), some (.ref T0), some (.str (S (least l (b - a) a))), y7, none, none, none] H4 := by
      intro H4 kk4 y7 kp hd4 mem4 len4
      have lp := length_putK kk4 (keyI a b) (.str (S (least l (b - a) a)))
      refine ⟨_, rfl, _, rfl, _, rfl, dk, _, rfl, DPut.t (k := keyI a b) hd4 (kp _ _ T0dk hT1) (smallL (by omega)), _, rfl, q _ _ ((Keep.same s1).trans (kp.put _)) upd_same (mem4.put rfl) (by omega)⟩
    -- if key in known
    refine ⟨_, rfl, _, rfl, dk, _, rfl, DGet.t (k := keyI a b) hdk1 hT1, _, rfl, ?_⟩
    cases hv : valV kks (keyI a b) with
    | some v =>
      have g := DGet.t (k := keyI a b) hdk1 hT1
      rw [hv] at g
      refine ⟨_, rfl, _, rfl, dk, v, rfl, g, ?_⟩
      rw [mem a b v hab hbn hv]
      exact q H1 kks (.same s1) hdk1 mem (by omega)
    | none =>
      refine iteF ?_
      refine ⟨_, rfl, _, rfl, _, _, rfl, rfl, _, _, rfl, rfl, _, rfl, ite2 (fun c => ?_) (fun c => ?_)⟩
      · have c' : (b : Int) - a < 2 := of_decide_eq_true c
        refine ⟨_, rfl, _, rfl, _, rfl, _, rfl, _, rfl, S l, rfl, lenOk, ?_⟩
        rw [cutS_S l a (b - a) (by omega) rfl (by omega), cut_least (by omega) (by omega)]
        exact fin H1 kks none (.refl _ _) hdk1 mem (by omega)
      · have c' : ¬ (b : Int) - a < 2 := fun z => c (decide_eq_true z)
        obtain ⟨k, hk⟩ : ∃ k, b = a + (k + 2) := ⟨b - a - 2, by omega⟩
        have hba : b - a = k + 2 := by omega
        have e1 : (S l).cps[((b : Int) - 1).toNat]? = some (l.getD (a + k + 1) 0) := by
          rw [show ((b : Int) - 1).toNat = a + k + 1 by omega]
          exact sign_at (by omega)
        have ex : ((b : Int) - 1) = ((b - 1 : Nat) : Int) := by omega
        have ey : ((a : Int) + 1) = ((a + 1 : Nat) : Int) := by omega
        have pw : 2 ^ (b - a + 1) = 2 * 2 ^ (k + 2) := by
          rw [hba, Nat.pow_succ 2 (k + 2)]
          omega
        have pw2 : 2 ^ (k + 2) = 2 * (2 * 2 ^ k) := by
          rw [Nat.pow_succ, Nat.pow_succ]
          omega
        have pw0 : 1 ≤ 2 ^ k := Nat.one_le_two_pow
        refine ⟨_, rfl, _, rfl, S l, a, _, rfl, rfl, by omega, by omega, by omega, sign_at (by omega), _, rfl, _, rfl, _, _, rfl, rfl, S l, _, _, rfl, rfl, by omega, by omega, by omega, e1, rfl, _, rfl, ?_⟩
        refine ite2 (fun e => ?_) (fun e => ?_)
        · have e' : l.getD a 0 = l.getD (a + k + 1) 0 := by
            have := V.str.inj (of_decide_eq_true e)
            simpa using this
          refine ⟨_, rfl, _, rfl, S l, a, _, rfl, rfl, by omega, by omega, by omega, sign_at (by omega), _, rfl, _, rfl, _, rfl, _, _, rfl, rfl, _, rfl, _, _, rfl, rfl, _, rfl, l, ds, dk, a + 1, b - 1, kvs, kks, ?_, len, by omega, by omega, by omega, dne, hds1, told, hdk1, mem, ?_, ?_⟩
          · rw [← ex, ← ey]
            rfl
          · rw [show b - 1 - (a + 1) + 1 = k + 1 by omega, Nat.pow_succ]
            omega
          · intro H4 kk4 kp hd4 mem4 len4
            rw [show b - 1 - (a + 1) = k by omega] at len4 ⊢
            rw [Nat.pow_succ] at len4
            have il : (least l k (a + 1)).length ≤ 200 := by
              have b1 := best_dp l k (a + 1) (by omega)
              have := b1.sub.length_le
              have h2 : (cutL l k (a + 1)).length ≤ l.length := by
                unfold cutL
                simp
                omega
              omega
            refine ⟨S [l.getD a 0], S (least l k (a + 1)), rfl, rfl, ?_, ?_⟩
            · rw [S_len, S_len]
              exact small (by simp; omega)
            · refine ⟨_, rfl, _, rfl, S l, a, _, rfl, rfl, by omega, by omega, by omega, sign_at (by omega), S [l.getD a 0] ++ S (least l k (a + 1)), S [l.getD a 0], rfl, rfl, ?_, ?_⟩
              · rw [S_app, S_len, S_len]
                exact small (by simp; omega)
              · have ev : S [l.getD a 0] ++ S (least l k (a + 1)) ++ S [l.getD a 0] = S (least l (b - a) a) := by
                  rw [S_app, S_app, hba, least, if_pos e']
                  rfl
                rw [ev]
                exact fin H4 kk4 none kp hd4 mem4 (by omega)
        · have e' : ¬ l.getD a 0 = l.getD (a + k + 1) 0 := fun z => e (decide_eq_true (show V.str ⟨#[l.getD a 0]⟩ = V.str ⟨#[l.getD (a + k + 1) 0]⟩ by rw [z]))
          refine ⟨_, rfl, _, _, rfl, rfl, _, rfl, z2, fun T1 nT1 => ⟨_, rfl, _, rfl, _, _, rfl, rfl, z2, fun T2 nT2 => ⟨z2, fun L nL => ?_⟩⟩⟩
          have sA := same_new nT1 (.tup [.int ((a : Int) + 1), .int b])
          have sB := same_new nT2 (.tup [.int (a : Int), .int ((b : Int) - 1)])
          have sC := same_new nL (.lst [.ref T1, .ref T2])
          have sX := sA.trans (sB.trans sC)
          have hT1x : (upd (upd (upd H1 T1 (.tup [.int ((a : Int) + 1), .int b])) T2 (.tup [.int (a : Int), .int ((b : Int) - 1)])) L (.lst [.ref T1, .ref T2])) T1 = some (.tup [.int ((a : Int) + 1), .int b]) := sC _ _ (sB _ _ upd_same)
          have hT2x : (upd (upd (upd H1 T1 (.tup [.int ((a : Int) + 1), .int b])) T2 (.tup [.int (a : Int), .int ((b : Int) - 1)])) L (.lst [.ref T1, .ref T2])) T2 = some (.tup [.int (a : Int), .int ((b : Int) - 1)]) := sC _ _ upd_same
          have hLx : (upd (upd (upd H1 T1 (.tup [.int ((a : Int) + 1), .int b])) T2 (.tup [.int (a : Int), .int ((b : Int) - 1)])) L (.lst [.ref T1, .ref T2])) L = some (.lst [.ref T1, .ref T2]) := upd_same
          generalize (upd (upd (upd H1 T1 (.tup [.int ((a : Int) + 1), .int b])) T2 (.tup [.int (a : Int), .int ((b : Int) - 1)])) L (.lst [.ref T1, .ref T2])) = Hx at sX hT1x hT2x hLx ⊢
          have gM : ∀ H2 : Hp, Same Hx H2 → DGet H2 ds (.ref T0) (some (.int (lps l (k + 2) a : Nat))) := fun H2 s2 => by
            have g := DGet.t (k := keyI a b) (s2 _ _ (sX _ _ hds1)) (s2 _ _ (sX _ _ hT1))
            rw [told a b ⟨hab, hbn⟩, hba] at g
            exact g
          have gA : ∀ H2 : Hp, Same Hx H2 → DGet H2 ds (.ref T1) (some (.int (lps l (k + 1) (a + 1) : Nat))) := fun H2 s2 => by
            have g := DGet.t (k := keyI ((a : Int) + 1) b) (s2 _ _ (sX _ _ hds1)) (s2 _ _ hT1x)
            rw [told.get (a + 1) b ey rfl ⟨by omega, hbn⟩, show b - (a + 1) = k + 1 by omega] at g
            exact g
          have gB : ∀ H2 : Hp, Same Hx H2 → DGet H2 ds (.ref T2) (some (.int (lps l (k + 1) a : Nat))) := fun H2 s2 => by
            have g := DGet.t (k := keyI (a : Int) ((b : Int) - 1)) (s2 _ _ (sX _ _ hds1)) (s2 _ _ hT2x)
            rw [told.get a (b - 1) rfl ex ⟨by omega, by omega⟩, show b - 1 - a = k + 1 by omega] at g
            exact g
          refine ⟨L, rfl, ⟨_, SqL.of hLx⟩, fun D nD => ?_⟩
          refine lc_list (K := K) (a := L) (xs := [.ref T1, .ref T2]) (fun i H' => Same Hx H' ∧ H' D = some (.lst (accs T1 T2 (isTop l k a (a + 1)) (isTop l k a a) i)))
            ⟨same_new nD _, upd_same⟩ (fun i H' _ p => SqL.of (p.1 _ _ hLx)) (fun i x H' hx p => ?_) (fun H' p => ?_)
          · obtain ⟨sm, hD⟩ := p
            match i, hx with
            | 0, hx =>
              obtain rfl : V.ref T1 = x := Option.some.inj hx
              refine ⟨rfl, _, rfl, _, rfl, ds, _, rfl, gA H' sm, _, rfl, _, rfl, ds, _, rfl, gM H' sm, rfl, _, rfl, ?_⟩
              refine ite2 (fun t => ⟨_, rfl, _, hD, smallL (by simp [accs]), same_put nD sm, ?_⟩) (fun t => ⟨sm, ?_⟩)
              · have t' : lps l (k + 1) (a + 1) = lps l (k + 2) a := by
                  have := V.int.inj (of_decide_eq_true t)
                  omega
                rw [upd_same]
                simp [accs, isTop, t']
              · have t' : ¬ lps l (k + 1) (a + 1) = lps l (k + 2) a := fun z => t (decide_eq_true (by rw [z]))
                rw [hD]
                simp [accs, isTop, t']
            | 1, hx =>
              obtain rfl : V.ref T2 = x := Option.some.inj hx
              refine ⟨rfl, _, rfl, _, rfl, ds, _, rfl, gB H' sm, _, rfl, _, rfl, ds, _, rfl, gM H' sm, rfl, _, rfl, ?_⟩
              refine ite2 (fun t => ⟨_, rfl, _, hD, smallL ?_, same_put nD sm, ?_⟩) (fun t => ⟨sm, ?_⟩)
              · show (if isTop l k a (a + 1) = true then [V.ref T1] else []).length ≤ _
                split <;> simp
              · have t' : lps l (k + 1) a = lps l (k + 2) a := by
                  have := V.int.inj (of_decide_eq_true t)
                  omega
                rw [upd_same]
                simp [accs, isTop, t']
              · have t' : ¬ lps l (k + 1) a = lps l (k + 2) a := fun z => t (decide_eq_true (by rw [z]))
                rw [hD]
                simp [accs, isTop, t']
            | i + 2, hx => simp at hx
          · obtain ⟨sm, hD⟩ := p
            have hD : H' D = some (.lst (accs T1 T2 (isTop l k a (a + 1)) (isTop l k a a) 2)) := hD
            rw [accs_all T1 T2 a] at hD
            obtain ⟨ne, pick⟩ := pick_ok (l := l) (k := k) (a := a) e' T1 T2
            have sY := sX.trans sm
            have at1 : ∀ p, p ∈ cands T1 T2 a (isTop l k a (a + 1)) (isTop l k a a) → H' p.1 = some (.tup [.int (p.2 : Nat), .int ((p.2 + (k + 1) : Nat))]) ∧ a ≤ p.2 ∧ p.2 ≤ a + 1 := fun p hp => by
              rcases cands_mem hp with rfl | rfl
              · refine ⟨?_, by show a ≤ a + 1; omega, Nat.le_refl _⟩
                rw [sm _ _ hT1x, ey, show a + 1 + (k + 1) = b by omega]
              · refine ⟨?_, Nat.le_refl _, by show a ≤ a + 1; omega⟩
                rw [sm _ _ hT2x, ex, show a + (k + 1) = b - 1 by omega]
            have few := cands_len T1 T2 a (isTop l k a (a + 1)) (isTop l k a a)
            generalize cands T1 T2 a (isTop l k a (a + 1)) (isTop l k a a) = cs at hD ne pick at1 few
            -- found = min([..])
            refine ⟨_, rfl, D, rfl, ⟨_, SqL.of hD⟩, fun D2 nD2 => ?_⟩
            have D2dk : D2 ≠ dk := fun z => by
              rw [z, sY _ _ hdk1] at nD2
              cases nD2
            have Ddk : D ≠ dk := ne_of hD (sY _ _ hdk1) (fun z => nomatch z)
            refine lc_list (K := K) (a := D) (xs := cs.map fun p => V.ref p.1) (fun i H2 => ∃ kk, Keep dk H' H2 ∧ H2 dk = some (.dT kk) ∧ Mem l kk ∧ kk.length + i ≤ kks.length + i * 2 ^ (k + 2) ∧ H2 D2 = some (.lst (((cs.map fun p => S (least l (k + 1) p.2)).take i).map V.str)))
              ⟨kks, .same (same_new nD2 _), (same_new nD2 _) _ _ (sY _ _ hdk1), mem, by omega, upd_same⟩ (fun i H2 _ p => ?_) (fun i x H2 hx p => ?_) (fun H2 p => ?_)
            · obtain ⟨kk, kp, _⟩ := p
              exact SqL.of (kp _ _ Ddk hD)
            · obtain ⟨kk, kp, hdk2, mem2, len2, hD2⟩ := p
              rw [List.getElem?_map] at hx
              cases hc : cs[i]? with
              | none => rw [hc] at hx; cases hx
              | some p =>
                rw [hc] at hx
                obtain rfl : V.ref p.1 = x := Option.some.inj hx
                obtain ⟨hp, p1, p2⟩ := at1 p (List.mem_of_getElem? hc)
                have pdk : p.1 ≠ dk := ne_of hp (sY _ _ hdk1) (fun z => nomatch z)
                have i2 : i < 2 := by
                  obtain ⟨h1, _⟩ := List.getElem?_eq_some_iff.mp hc
                  omega
                have i2' : i * 2 ^ (k + 2) ≤ 2 ^ (k + 2) := by
                  have := Nat.mul_le_mul_right (2 ^ (k + 2)) (show i ≤ 1 by omega)
                  omega
                refine ⟨p.1, _, rfl, .inl (.inl (kp _ _ pdk hp)), rfl, _, _, rfl, _, _, rfl, rfl, rfl, _, rfl, _, rfl, _, rfl, _, rfl, _, rfl, l, ds, dk, p.2, p.2 + (k + 1), kvs, kk, rfl, len, by omega, by omega, by omega, dne, kp _ _ dne (sY _ _ hds1), told, hdk2, mem2, ?_, ?_⟩
                · rw [show p.2 + (k + 1) - p.2 + 1 = k + 2 by omega]
                  omega
                · intro H3 kk3 kp3 hdk3 mem3 len3
                  rw [show p.2 + (k + 1) - p.2 = k + 1 by omega] at len3 ⊢
                  refine ⟨_, kp3 _ _ D2dk hD2, smallL ?_, kk3, ?_, ?_, mem3, ?_, ?_⟩
                  · rw [List.length_map]
                    have := List.length_take_le i (cs.map fun p => S (least l (k + 1) p.2))
                    omega
                  · intro y o hy ho
                    have yD2 : y ≠ D2 := ne_of_none ho nD2
                    rw [upd_ne yD2]
                    exact kp3 y o hy (kp y o hy ho)
                  · rw [upd_ne (Ne.symm D2dk)]
                    exact hdk3
                  · rw [Nat.add_mul]
                    omega
                  · rw [upd_same, List.take_add_one, List.getElem?_map, hc, List.map_append]
                    rfl
            · obtain ⟨kk, kp, hdk2, mem2, len2, hD2⟩ := p
              rw [List.length_map] at len2 hD2
              rw [List.take_of_length_le (by rw [List.length_map]; exact Nat.le_refl _)] at hD2
              have c2 : cs.length * 2 ^ (k + 2) ≤ 2 * 2 ^ (k + 2) := Nat.mul_le_mul_right _ few
              have c3 : cs.length ≠ 0 := fun z => ne (by rw [List.length_eq_zero_iff.mp z]; rfl)
              have c4 : kk.length + 2 ≤ kks.length + 2 * 2 ^ (k + 2) := by
                rcases (show cs.length = 1 ∨ cs.length = 2 by omega) with h | h
                · rw [h] at len2
                  omega
                · rw [h] at len2
                  omega
              refine ⟨D2, _, rfl, SqL.of hD2, ne, fun y hy low => ?_⟩
              rw [pick y hy low, ← hba]
              exact fin H2 kk _ ((Keep.same sY).trans kp) hdk2 mem2 (by omega)
end
end Pm
namespace Pm
open L2 PySem PySem.Spec PyProof.Rows
section
variable {w : World} {P : Program} {K : PySem.W.Frag} {base : Heap} {mg : Str → Option Value}
theorem all_least {f : Addr} {fd : FuncData} (F : Fun K "least_left" "least_left" sLeast f fd) (bG : Binds K fd pL []) (mG : mg "least_left" = some (.ref f)) (mm : mg "min" = none) : ∀ m : Nat, FnOk P w K mg base CX0 m f fd pL (spLeast m)
  | 0 => none_least
  | m + 1 => ok_least F (all_least F bG mG mm m) bG mG mm
theorem scPutIn : FnScope ["word"] ["word"] (defScope sPutIn) := ⟨rfl, rfl, rfl, by decide +kernel, rfl, by decide +kernel, by decide +kernel⟩
theorem scLeftM : FnScope ["word", "sizes"] ["word"] (defScope sLeftM) := ⟨rfl, rfl, rfl, by decide +kernel, rfl, by decide +kernel, by decide +kernel⟩
def spPutIn : Sp := fun vs H Q _ => ∃ l : List Nat, vs = [.str (S l)] ∧ Let l ∧ l.length ≤ 200 ∧ ∀ H', Same H H' → Q (.int ((l.length : Int) - (lps l l.length 0 : Nat))) H'
def spLeftM : Sp := fun vs H Q _ => ∃ l : List Nat, vs = [.str (S l)] ∧ Let l ∧ l.length ≤ 8 ∧ ∀ H', Same H H' → Q (.str (S (least l l.length 0))) H'
theorem ok_putIn {f g gi : Addr} {fd gd gid : FuncData} (F : Fun K "fewest_put_in" "fewest_put_in" sPutIn f fd) (G : FnOk P w K mg base CX0 3 g gd ["word"] (spNeed 200)) (bG : Binds K gd ["word"] []) (kG : PySem.W.keepIn K (.ref g) = true) (mG : mg "need_mend" = some (.ref g))
    (GI : FnOk P w K mg base CX0 1 gi gid ["word"] spInner) (bI : Binds K gid ["word"] []) (kI : PySem.W.keepIn K (.ref gi) = true) (mI : mg "inner_of" = some (.ref gi)) (ml : mg "len" = none) : FnOk P w K mg base CX0 4 f fd ["word"] spPutIn := by
  refine F.ok scPutIn (fun vs H Q E h => ?_) (fun cdv A outer s H vs Q E hr h => ?_)
  · obtain ⟨l, rfl, _⟩ := h
    rfl
  · obtain ⟨l, rfl, hl, len, q⟩ := h
    refine ⟨_, pss_cons (ps_expr (pe_call G hr (by rfl) mG kG bG .nil pass0 (pa_cons (pv 0) pa_nil)))
      (pss_one (ps_ret (pe_op op_sub (pe_callB call_len (by rfl) ml PySem.boot_len (pa_cons (pv 0) pa_nil))
        (pe_dget (hu_of hr) (pe_call GI (hr.mono (by decide)) (by rfl) mI kI bI .nil pass0 (pa_cons (pv 0) pa_nil)) (pe_tup (pa_cons pe_int (pa_cons (pe_callB call_len (by rfl) ml PySem.boot_len (pa_cons (pv 0) pa_nil)) pa_nil))) (fun _ _ => rfl))))), ?_⟩
    have sl : (S l).length = l.length := S_len l
    have lenOk : (S l).length ≤ sizeLine := small (by omega)
    have z2 : 2 ≤ sizeLine := by decide
    refine ⟨_, rfl, l, rfl, hl, len, fun H1 s1 => ?_⟩
    refine ⟨_, rfl, .str (S l), l.length, rfl, ⟨lenOk, sl.symm⟩, _, rfl, l, rfl, len, fun H2 p kvs s2 hp told => ?_⟩
    refine ⟨_, rfl, .str (S l), l.length, rfl, ⟨lenOk, sl.symm⟩, z2, fun T nT => ?_⟩
    have g := DGet.t (k := keyI 0 l.length) (keep_new (o := .tup [.int 0, .int (l.length : Nat)]) hp nT) upd_same
    rw [told.get (i := 0) (j := (l.length : Int)) 0 l.length rfl rfl ⟨Nat.zero_le _, Nat.le_refl _⟩, Nat.sub_zero] at g
    refine ⟨p, _, rfl, g, _, _, rfl, rfl, ?_⟩
    exact q _ (s1.trans (s2.trans (same_new nT _)))
theorem ok_leftM {f g gi gl : Addr} {fd gd gid gld : FuncData} (F : Fun K "left_mirror" "left_mirror" sLeftM f fd) (G : FnOk P w K mg base CX0 3 g gd ["word"] (spNeed 200)) (bG : Binds K gd ["word"] []) (kG : PySem.W.keepIn K (.ref g) = true) (mG : mg "need_mend" = some (.ref g))
    (GI : FnOk P w K mg base CX0 1 gi gid ["word"] spInner) (bI : Binds K gid ["word"] []) (kI : PySem.W.keepIn K (.ref gi) = true) (mI : mg "inner_of" = some (.ref gi))
    (GL : FnOk P w K mg base CX0 9 gl gld pL (spLeast 9)) (bL : Binds K gld pL []) (kL : PySem.W.keepIn K (.ref gl) = true) (mL : mg "least_left" = some (.ref gl)) (ml : mg "len" = none) : FnOk P w K mg base CX0 10 f fd ["word"] spLeftM := by
  refine F.ok scLeftM (fun vs H Q E h => ?_) (fun cdv A outer s H vs Q E hr h => ?_)
  · obtain ⟨l, rfl, _⟩ := h
    rfl
  · obtain ⟨l, rfl, hl, len, q⟩ := h
    refine ⟨_, pss_cons (ps_expr (pe_call G (hr.mono (by decide)) (by rfl) mG kG bG .nil pass0 (pa_cons (pv 0) pa_nil)))
      (pss_cons (ps_set (i := 1) scLeftM.nd rfl (.inl rfl) (pe_call GI (hr.mono (by decide)) (by rfl) mI kI bI .nil pass0 (pa_cons (pv 0) pa_nil)))
      (pss_one (ps_ret (pe_call GL hr (by rfl) mL kL bL .nil pass0 (pa_cons (pv 0) (pa_cons (pv 1) (pa_cons pe_int (pa_cons (pe_callB call_len (by rfl) ml PySem.boot_len (pa_cons (pv 0) pa_nil)) (pa_cons pe_dnewT pa_nil))))))))), ?_⟩
    have sl : (S l).length = l.length := S_len l
    have lenOk : (S l).length ≤ sizeLine := small (by omega)
    refine ⟨_, rfl, l, rfl, hl, by omega, fun H1 s1 => ?_⟩
    refine ⟨_, rfl, l, rfl, by omega, fun H2 p kvs s2 hp told => ?_⟩
    refine ⟨_, rfl, _, rfl, _, rfl, .str (S l), l.length, rfl, ⟨lenOk, sl.symm⟩, fun d nd => ?_⟩
    have sd := same_new nd (.dT [])
    refine ⟨l, p, d, 0, l.length, kvs, [], rfl, by omega, Nat.zero_le _, Nat.le_refl _, by omega, ne_of_none hp nd, sd _ _ hp, told, upd_same, fun a b v _ _ h => ?_, ?_, fun H3 kk kp hd mem _ => ?_⟩
    · cases h
    · have : 2 ^ (l.length - 0 + 1) ≤ 2 ^ 9 := Nat.pow_le_pow_right (by decide) (by omega)
      simp only [List.length_nil]
      omega
    · refine q H3 (s1.trans (s2.trans fun x o e => ?_))
      exact kp x o (ne_of_none e nd) (sd _ _ e)
end
end Pm
namespace Pm
open L2 PySem PySem.Spec PyProof.Rows
/-- the law's row: the script, a place, two numbers -/
def RowAt (H : Hp) (a sc : Addr) : Prop := ∃ i x y : Int, 0 ≤ i ∧ H a = some (.lst [.ref sc, .int i, .int x, .int y])
theorem seq_keep {K : PySem.W.Frag} {H H' : Hp} {a sc : Addr} {ns : List Int} (h : SqL K H sc (ns.map V.int)) (r : RowAt H a sc) (k : Keep a H H') : SqL K H' sc (ns.map V.int) := by
  obtain ⟨i, x, y, _, e⟩ := r
  have ne : ∀ o, H sc = some o → o ≠ .lst [.ref sc, .int i, .int x, .int y] → sc ≠ a := fun o h d z => by
    subst z
    rw [e] at h
    exact d (Option.some.inj h).symm
  rcases h with (h1 | ⟨o, h1⟩) | h1
  · refine .inl (.inl (k _ _ (ne _ h1 fun z => ?_) h1))
    injection z with z
    cases ns with
    | nil => cases z
    | cons n ns =>
      injection z with z _
      cases z
  · exact .inl (.inr ⟨o, k _ _ (ne _ h1 fun z => nomatch z) h1⟩)
  · exact .inr h1
section
variable {w : World} {P : Program} {K : PySem.W.Frag} {base : Heap} {mg : Str → Option Value}
abbrev pT : List Str := ["_law_row", "_law_many"]
theorem scTaken : FnScope ["_law_row", "_law_many", "_law_found", "_law_cell"] pT (defScope sTaken) := ⟨rfl, rfl, rfl, by decide +kernel, rfl, by decide +kernel, by decide +kernel⟩
def spTaken (K : PySem.W.Frag) : Sp := fun vs H Q _ => ∃ (a sc : Addr) (ns : List Int) (m : Int), vs = [.ref a, .int m] ∧ 0 < m ∧ m < 1000000 ∧ RowAt H a sc ∧ SqL K H sc (ns.map V.int) ∧
  ∀ H' k, Keep a H H' → RowAt H' a sc → 0 ≤ k → k < m → Q (.int k) H'
theorem ok_taken {f : Addr} {fd : FuncData} (F : Fun K "_law_taken" "_law_taken" sTaken f fd) (mi : mg "int" = none) (ml : mg "len" = none) : FnOk P w K mg base CX0 1 f fd pT (spTaken K) := by
  refine F.ok scTaken (fun vs H Q E h => ?_) (fun cdv A outer s H vs Q E hr h => ?_)
  · obtain ⟨a, sc, ns, m, rfl, _⟩ := h
    rfl
  · obtain ⟨a, sc, ns, m, rfl, m0, m1, row, hs, q⟩ := h
    refine ⟨_, pss_cons (ps_if (pt_cmpR op_gt (pe_ix ix_list (pv 0) pe_int (fun _ _ => rfl)) pe_int (nomark _))
        (pss_cons (ps_set (i := 2) scTaken.nd rfl (.inl rfl) (pe_op op_modN (pe_callTy call_int1 (by rfl) mi (by decide +kernel) (pa_cons (pe_ix ix_list (pv 0) pe_int (fun _ _ => rfl)) pa_nil)) (pv 1)))
        (pss_cons (ps_asg (pe_op op_fdivN (pe_ix ix_list (pv 0) pe_int (fun _ _ => rfl)) (pv 1)) (pg_sub (pv 0) pe_int set_list))
        (pss_one (ps_ret (pv 2))))) pss_nil)
      (pss_cons (ps_asg (pe_op op_add (pe_ix ix_list (pv 0) pe_int (fun _ _ => rfl)) pe_int) (pg_sub (pv 0) pe_int set_list))
      (pss_cons (ps_if (pt_cmpR op_gt (pe_ix ix_list (pv 0) pe_int (fun _ _ => rfl)) (pe_callB call_len_seq (by rfl) ml PySem.boot_len (pa_cons (pe_ix ix_list (pv 0) pe_int (fun _ _ => rfl)) pa_nil)) (nomark _))
        (pss_cons (ps_asg (pe_op op_modN (pe_callTy call_int1 (by rfl) mi (by decide +kernel) (pa_cons (pe_op op_add (pe_op op_mul (pe_ix ix_list (pv 0) pe_int (fun _ _ => rfl)) pe_int) pe_int) pa_nil)) pe_int) (pg_sub (pv 0) pe_int set_list))
        (pss_one (ps_ret (pe_op op_modN (pe_callTy call_int1 (by rfl) mi (by decide +kernel) (pa_cons (pe_op op_fdivN (pe_ix ix_list (pv 0) pe_int (fun _ _ => rfl)) pe_int) pa_nil)) (pv 1))))) pss_nil)
      (pss_cons (ps_set (i := 3) scTaken.nd rfl (.inl rfl) (pe_ix ix_list (pe_ix ix_list (pv 0) pe_int (fun _ _ => rfl)) (pe_op op_sub (pe_ix ix_list (pv 0) pe_int (fun _ _ => rfl)) pe_int) (fun _ _ => rfl)))
      (pss_cons (ps_asg (pe_op op_modN (pe_callTy call_int1 (by rfl) mi (by decide +kernel) (pa_cons (pe_op op_add (pe_op op_add (pe_op op_mul (pe_ix ix_list (pv 0) pe_int (fun _ _ => rfl)) pe_int) (pv 3)) pe_int) pa_nil)) pe_int) (pg_sub (pv 0) pe_int set_list))
      (pss_cons (ps_if (pt_cmpR op_ge (pv 3) (pe_op op_pow pe_int pe_int) (nomark _)) (pss_one (ps_asg (pe_op op_fdivN (pv 3) (pv 1)) (pg_sub (pv 0) pe_int set_list))) pss_nil)
      (pss_one (ps_ret (pe_op op_modN (pe_callTy call_int1 (by rfl) mi (by decide +kernel) (pa_cons (pv 3) pa_nil)) (pv 1))))))))), ?_⟩
    obtain ⟨i, x, y, i0, ha⟩ := row
    have row0 : RowAt H a sc := ⟨i, x, y, i0, ha⟩
    have at3 : ∀ p q r t : V, atI [p, q, r, t] 3 = some t := fun _ _ _ _ => atI_nat (j := 3) rfl
    have at2 : ∀ p q r t : V, atI [p, q, r, t] 2 = some r := fun _ _ _ _ => atI_nat (j := 2) rfl
    have at1 : ∀ p q r t : V, atI [p, q, r, t] 1 = some q := fun _ _ _ _ => atI_nat (j := 1) rfl
    have at0 : ∀ p q r t : V, atI [p, q, r, t] 0 = some p := fun _ _ _ _ => atI_nat (j := 0) rfl
    have md : ∀ z : Int, 0 ≤ z.fmod m ∧ z.fmod m < m := fun z => ⟨Int.fmod_nonneg_of_pos _ m0, Int.fmod_lt_of_pos _ m0⟩
    refine ⟨_, rfl, a, _, _, _, rfl, rfl, SqL.of ha, at3 _ _ _ _, _, _, rfl, rfl, _, rfl, ite2 (fun c => ?_) (fun c => ?_)⟩
    · refine ⟨_, rfl, a, _, _, _, rfl, rfl, SqL.of ha, at3 _ _ _ _, .inl ⟨y, rfl, _, rfl, _, _, rfl, rfl, by omega, ?_⟩⟩
      refine ⟨_, rfl, a, _, _, _, rfl, rfl, SqL.of ha, at3 _ _ _ _, _, rfl, _, _, rfl, rfl, ⟨by omega, by omega⟩, _, rfl, a, _, 3, 3, rfl, rfl, ha, rfl, ?_⟩
      refine ⟨_, rfl, q _ _ ((Keep.refl a H).put _) ⟨i, x, _, i0, upd_same⟩ (md y).1 (md y).2⟩
    · refine ⟨_, rfl, a, _, _, _, rfl, rfl, SqL.of ha, at1 _ _ _ _, _, _, rfl, rfl, _, rfl, a, _, 1, 1, rfl, rfl, ha, rfl, ?_⟩
      have ha1 : (upd H a (.lst ([V.ref sc, V.int i, V.int x, V.int y].set 1 (.int (i + 1))))) a = some (.lst [.ref sc, .int (i + 1), .int x, .int y]) := upd_same
      have kp1 : Keep a H (upd H a (.lst ([V.ref sc, V.int i, V.int x, V.int y].set 1 (.int (i + 1))))) := (Keep.refl a H).put _
      generalize (upd H a (.lst ([V.ref sc, V.int i, V.int x, V.int y].set 1 (.int (i + 1))))) = H1 at ha1 kp1 ⊢
      have hs1 := seq_keep hs row0 kp1
      refine ⟨_, rfl, a, _, _, _, rfl, rfl, SqL.of ha1, at1 _ _ _ _, _, rfl, a, _, _, _, rfl, rfl, SqL.of ha1, at0 _ _ _ _, sc, _, rfl, .inl hs1, _, _, rfl, rfl, _, rfl, ite2 (fun c1 => ?_) (fun c1 => ?_)⟩
      · refine ⟨_, rfl, a, _, _, _, rfl, rfl, SqL.of ha1, at2 _ _ _ _, _, _, rfl, rfl, .inr ⟨by decide, by decide⟩, _, _, rfl, rfl, .inl ⟨_, rfl, _, _, rfl, rfl, (show (2147483647 : Int) ≠ 0 by decide), _, rfl, a, _, 2, 2, rfl, rfl, ha1, rfl, ?_⟩⟩
        refine ⟨_, rfl, a, _, _, _, rfl, rfl, SqL.of upd_same, at2 _ _ _ _, _, _, rfl, rfl, ⟨by decide, by decide⟩, .inl ⟨_, rfl, _, rfl, _, _, rfl, rfl, by omega, ?_⟩⟩
        exact q _ _ (kp1.put _) ⟨i + 1, _, y, by omega, upd_same⟩ (md _).1 (md _).2
      · have c1' : ¬ ((ns.map V.int).length : Int) < i + 1 := fun z => c1 (decide_eq_true z)
        rw [List.length_map] at c1'
        obtain ⟨j, rfl⟩ : ∃ j : Nat, i = j := ⟨i.toNat, by omega⟩
        have hj : j < ns.length := by omega
        have cell : atI (ns.map V.int) ((j : Int) + 1 - 1) = some (.int ns[j]) := by
          rw [show (j : Int) + 1 - 1 = (j : Int) by omega]
          exact atI_nat (by rw [List.getElem?_map, List.getElem?_eq_getElem hj]; rfl)
        refine ⟨_, rfl, a, _, _, _, rfl, rfl, SqL.of ha1, at0 _ _ _ _, _, rfl, a, _, _, _, rfl, rfl, SqL.of ha1, at1 _ _ _ _, _, _, rfl, rfl, sc, _, _, _, rfl, rfl, hs1, cell, ?_⟩
        refine ⟨_, rfl, a, _, _, _, rfl, rfl, SqL.of ha1, at2 _ _ _ _, _, _, rfl, rfl, .inr ⟨by decide, by decide⟩, _, rfl, _, _, rfl, rfl, _, _, rfl, rfl, .inl ⟨_, rfl, _, _, rfl, rfl, (show (2147483647 : Int) ≠ 0 by decide), _, rfl, a, _, 2, 2, rfl, rfl, ha1, rfl, ?_⟩⟩
        have ha2 : ∀ z : Int, (upd H1 a (.lst ([V.ref sc, V.int ((j : Int) + 1), V.int x, V.int y].set 2 (.int z)))) a = some (.lst [.ref sc, .int ((j : Int) + 1), .int z, .int y]) := fun z => upd_same
        refine ⟨_, rfl, _, _, rfl, rfl, ⟨by decide, by decide, by decide⟩, _, _, rfl, rfl, _, rfl, ite2 (fun _ => ?_) (fun _ => ?_)⟩
        · refine ⟨_, rfl, _, rfl, _, _, rfl, rfl, ⟨by omega, by omega⟩, _, rfl, a, _, 3, 3, rfl, rfl, ha2 _, rfl, ?_⟩
          refine ⟨_, rfl, .inl ⟨_, rfl, _, rfl, _, _, rfl, rfl, by omega, ?_⟩⟩
          exact q _ _ ((kp1.put _).put _) ⟨_, _, _, by omega, upd_same⟩ (md _).1 (md _).2
        · refine ⟨_, rfl, .inl ⟨_, rfl, _, rfl, _, _, rfl, rfl, by omega, ?_⟩⟩
          exact q _ _ (kp1.put _) ⟨_, _, _, by omega, upd_same⟩ (md _).1 (md _).2
/-! ### _law_word_of -/
abbrev pW : List Str := ["_law_row", "_law_most", "_law_many"]
theorem scWordOf : FnScope ["_law_row", "_law_most", "_law_many", "_law_turn"] pW (defScope sWordOf) := ⟨rfl, rfl, rfl, by decide +kernel, rfl, by decide +kernel, by decide +kernel⟩
/-- a text of letters is drawn -/
def spDraw (K : PySem.W.Frag) : Sp := fun vs H Q _ => ∃ (a sc : Addr) (ns : List Int) (top m : Int), vs = [.ref a, .int top, .int m] ∧ 0 < m ∧ m ≤ 5 ∧ 0 ≤ top ∧ top ≤ 100 ∧ RowAt H a sc ∧ SqL K H sc (ns.map V.int) ∧
  ∀ H' l, Keep a H H' → RowAt H' a sc → Let l → (l.length : Int) ≤ top → Q (.str (S l)) H'
theorem letter_of {k : Int} (h0 : 0 ≤ k) (h1 : k < 5) : ∃ c, (PySem.Str.ofString "abcde").cps[k.toNat]? = some c ∧ (c = 97 ∨ c = 98 ∨ c = 99 ∨ c = 100 ∨ c = 101) := by
  have e : ∀ i : Nat, (PySem.Str.ofString "abcde").cps[i]? = [97, 98, 99, 100, 101][i]? := fun i => by
    rw [← abcde, Array.getElem?_toList]
  rw [e]
  have : k.toNat < 5 := by omega
  match k.toNat, this with
  | 0, _ => exact ⟨97, rfl, by decide⟩
  | 1, _ => exact ⟨98, rfl, by decide⟩
  | 2, _ => exact ⟨99, rfl, by decide⟩
  | 3, _ => exact ⟨100, rfl, by decide⟩
  | 4, _ => exact ⟨101, rfl, by decide⟩
theorem len_abcde : (PySem.Str.ofString "abcde").length = 5 := by decide +kernel
theorem ok_wordOf {f g : Addr} {fd gd : FuncData} (F : Fun K "_law_word_of" "_law_word_of" sWordOf f fd) (G : FnOk P w K mg base CX0 1 g gd pT (spTaken K)) (bG : Binds K gd pT []) (kG : PySem.W.keepIn K (.ref g) = true) (mG : mg "_law_taken" = some (.ref g)) (mr : mg "range" = none) :
    FnOk P w K mg base CX0 2 f fd pW (spDraw K) := by
  refine F.ok scWordOf (fun vs H Q E h => ?_) (fun cdv A outer s H vs Q E hr h => ?_)
  · obtain ⟨a, sc, ns, top, m, rfl, _⟩ := h
    rfl
  · obtain ⟨a, sc, ns, top, m, rfl, m0, m5, t0, t1, row, hs, q⟩ := h
    refine ⟨_, pss_one (ps_ret (pe_join pe_str (pe_lc (own := [("_law_turn", 3)]) (g := gName 3) rfl scWordOf.nd
        (pi_range1 (by rfl) mr (pa_cons (pe_call G hr (by rfl) mG kG bG .nil pass0 (pa_cons (pv 0) (pa_cons (pe_op op_add (pv 1) pe_int) pa_nil))) pa_nil))
        (blkOk_by (own := [("_law_turn", 3)]) (N := ["_law_row", "_law_most", "_law_many", "_law_turn"]) (sc := defScope sWordOf) (by decide +kernel))
        (fun _ _ _ _ _ => pg_name (i := 3) scWordOf.nd rfl (.inl rfl)) (fun _ _ _ _ _ => pts_nil)
        (fun _ _ _ _ _ => pe_item_str pe_str (pe_call G hr (by rfl) mG kG bG .nil pass0 (pa_cons (pv 0) (pa_cons (pv 2) pa_nil))) (fun _ _ => rfl))))), ?_⟩
    refine ⟨⟨_, rfl⟩, _, rfl, _, rfl, _, _, rfl, rfl, a, sc, ns, top + 1, rfl, by omega, by omega, row, hs, fun H1 k kp1 row1 k0 k1 => ?_⟩
    have hs1 := seq_keep hs row kp1
    refine ⟨k, rfl, by omega, by omega, fun D nD => ?_⟩
    have Da : D ≠ a := fun z => by
      obtain ⟨i, x, y, _, e⟩ := row1
      rw [z, e] at nD
      cases nD
    refine lc_range (lo := 0) (n := k.toNat) (fun i H' => Keep a H1 H' ∧ RowAt H' a sc ∧ ∃ l, l.length = i ∧ Let l ∧ H' D = some (.lst ((l.map sg).map V.str)))
      ⟨.same (same_new nD _), ?_, [], rfl, (fun c hc => by cases hc), upd_same⟩ (fun i H' hi p => ?_) (fun H' p => ?_)
    · obtain ⟨i, x, y, i0, e⟩ := row1
      exact ⟨i, x, y, i0, same_new nD _ _ _ e⟩
    · obtain ⟨kp, row2, l, hl, let2, hD⟩ := p
      refine ⟨rfl, _, rfl, _, rfl, a, sc, ns, m, rfl, m0, by omega, row2, seq_keep hs1 row1 kp, fun H3 j kp3 row3 j0 j1 => ?_⟩
      obtain ⟨c, hc, hlet⟩ := letter_of j0 (show j < 5 by omega)
      refine ⟨_, j, c, rfl, rfl, j0, by omega, by rw [len_abcde]; omega, hc, _, kp3 _ _ Da hD, ?_, fun x o nx e => ?_, ?_, l ++ [c], by simp [hl], fun d hd => ?_, ?_⟩
      · rw [List.length_map, List.length_map]
        exact smallL (by omega)
      · by_cases xD : x = D
        · rw [xD, nD] at e
          cases e
        · rw [upd_ne xD]
          exact kp3 x o nx (kp x o nx e)
      · obtain ⟨i', x, y, i0, e⟩ := row3
        exact ⟨i', x, y, i0, by rw [upd_ne (Ne.symm Da)]; exact e⟩
      · rcases List.mem_append.mp hd with h | h
        · exact let2 d h
        · rw [List.mem_singleton.mp h]
          exact hlet
      · rw [upd_same, List.map_append, List.map_append]
        rfl
    · obtain ⟨kp, row2, l, hl, let2, hD⟩ := p
      refine ⟨"", D, _, rfl, rfl, .inl (SqL.of hD), ?_, ?_⟩
      · rw [len_signs]
        show l.length + _ * 0 ≤ _
        omega
      · rw [join_signs]
        exact q H' l (kp1.trans kp) row2 let2 (by omega)
end
end Pm
namespace Pm
open L2 PySem PySem.Spec PyProof.Rows
section
variable {w : World} {P : Program} {K : PySem.W.Frag} {base : Heap} {mg : Str → Option Value}
/-! ### _law_plan -/
theorem scPlan : FnScope ["_law_row", "_law_most", "_law_many", "_law_found", "_law_last", "_law_turn"] pW (defScope sPlan) := ⟨rfl, rfl, rfl, by decide +kernel, rfl, by decide +kernel, by decide +kernel⟩
theorem ok_plan {f g : Addr} {fd gd : FuncData} (F : Fun K "_law_plan" "_law_plan" sPlan f fd) (G : FnOk P w K mg base CX0 1 g gd pT (spTaken K)) (bG : Binds K gd pT []) (kG : PySem.W.keepIn K (.ref g) = true) (mG : mg "_law_taken" = some (.ref g)) (mr : mg "range" = none) :
    FnOk P w K mg base CX0 2 f fd pW (spDraw K) := by
  refine F.ok scPlan (fun vs H Q E h => ?_) (fun cdv A outer s H vs Q E hr h => ?_)
  · obtain ⟨a, sc, ns, top, m, rfl, _⟩ := h
    rfl
  · obtain ⟨a, sc, ns, top, m, rfl, m0, m5, t0, t1, row, hs, q⟩ := h
    refine ⟨_, pss_cons (ps_asg (pe_tup (pa_cons pe_str (pa_cons pe_str pa_nil))) (pg_tup rfl (pgs_cons (pg_name (i := 3) scPlan.nd rfl (.inl rfl)) (pgs_cons (pg_name (i := 4) scPlan.nd rfl (.inl rfl)) pgs_nil))))
      (pss_cons (ps_for PassesOwn.never rfl (pi_range1 (by rfl) mr (pa_cons (pe_call G hr (by rfl) mG kG bG .nil pass0 (pa_cons (pv 0) (pa_cons (pe_op op_add (pv 1) pe_int) pa_nil))) pa_nil))
          (pg_name (i := 5) scPlan.nd rfl (.inl rfl))
          (pss_cons (ps_if (pt_cmpR op_gt (pe_call G hr (by rfl) mG kG bG .nil pass0 (pa_cons (pv 0) (pa_cons pe_int pa_nil))) pe_int (nomark _))
            (pss_one (ps_set (i := 4) scPlan.nd rfl (.inl rfl) (pe_item_str pe_str (pe_call G hr (by rfl) mG kG bG .nil pass0 (pa_cons (pv 0) (pa_cons (pv 2) pa_nil))) (fun _ _ => rfl)))) pss_nil)
          (pss_one (ps_set (i := 3) scPlan.nd rfl (.inl rfl) (pe_op op_add_str (pv 3) (pv 4))))))
      (pss_one (ps_ret (pv 3)))), ?_⟩
    refine ⟨(by show 2 ≤ sizeLine; decide), fun T nT => ⟨T, _, rfl, .inl (.inl upd_same), rfl, _, _, rfl, _, _, rfl, rfl, ?_⟩⟩
    have sT := same_new nT (.tup [.str "", .str "a"])
    have row' : RowAt (upd H T (.tup [.str "", .str "a"])) a sc := by
      obtain ⟨i, x, y, i0, e⟩ := row
      exact ⟨i, x, y, i0, sT _ _ e⟩
    refine ⟨_, rfl, _, rfl, _, _, rfl, rfl, a, sc, ns, top + 1, rfl, by omega, by omega, row', sT.seq hs, fun H1 k kp1' row1 k0 k1 => ?_⟩
    have kp1 := (Keep.same sT).trans kp1'
    have hs1 := seq_keep hs row kp1
    refine ⟨k, rfl, by omega, by omega, ?_⟩
    refine for_range (fun i σ H' => Keep a H1 H' ∧ RowAt H' a sc ∧ ∃ (l : List Nat) (c : Nat) (y5 : Option V), l.length = i ∧ Let l ∧ Let [c] ∧ σ = [some (.ref a), some (.int top), some (.int m), some (.str (S l)), some (.str (S [c])), y5])
      ⟨.refl _ _, row1, [], 97, none, rfl, (fun c hc => by cases hc), (fun c hc => .inl (List.mem_singleton.mp hc)), rfl⟩ (fun i σ H2 hi p => ?_) (fun σ H2 p => ?_)
    · obtain ⟨kp, row2, l, c, y5, hl, letl, letc, rfl⟩ := p
      have fin : ∀ (H3 : Hp) (d : Nat), Keep a H1 H3 → RowAt H3 a sc → Let [d] →
          tAsg (tOp (fun x y H Q => ∃ i j, x = V.str i ∧ y = V.str j ∧ i.length + j.length ≤ sizeLine ∧ Q (V.str (i ++ j)) H) (tVar 3) (tVar 4)) (gName 3)
            { nx := fun σ H' => Keep a H1 H' ∧ RowAt H' a sc ∧ ∃ (l : List Nat) (c : Nat) (y5 : Option V), l.length = i + 1 ∧ Let l ∧ Let [c] ∧ σ = [some (.ref a), some (.int top), some (.int m), some (.str (S l)), some (.str (S [c])), y5], rt := Q }
            [some (.ref a), some (.int top), some (.int m), some (.str (S l)), some (.str (S [d])), some (.int (0 + i))] H3 := by
        intro H3 d kp3 row3 letd
        refine ⟨_, rfl, _, rfl, S l, S [d], rfl, rfl, ?_, kp3, row3, l ++ [d], d, some (.int (0 + i)), by simp [hl], ?_, letd, ?_⟩
        · rw [S_len, S_len]
          exact small (by simp; omega)
        · intro e he
          rcases List.mem_append.mp he with h | h
          · exact letl e h
          · exact letd e h
        · rw [S_app]
          rfl
      refine ⟨_, rfl, a, sc, ns, 3, rfl, by decide, by decide, row2, seq_keep hs1 row1 kp, fun H3 j kp3 row3 j0 j1 => ?_⟩
      have kq := kp.trans kp3
      refine ⟨_, _, rfl, rfl, _, rfl, ite2 (fun _ => ?_) (fun _ => fin H3 c kq row3 letc)⟩
      refine ⟨_, rfl, _, rfl, a, sc, ns, m, rfl, m0, by omega, row3, seq_keep hs1 row1 kq, fun H4 j' kp4 row4 j0' j1' => ?_⟩
      obtain ⟨d, hd, hlet⟩ := letter_of j0' (show j' < 5 by omega)
      refine ⟨_, j', d, rfl, rfl, j0', by omega, by rw [len_abcde]; omega, hd, ?_⟩
      exact fin H4 d (kq.trans kp4) row4 (fun e he => by rw [List.mem_singleton.mp he]; exact hlet)
    · obtain ⟨kp, row2, l, c, y5, hl, letl, letc, rfl⟩ := p
      exact ⟨_, rfl, q H2 l (kp1.trans kp) row2 letl (by omega)⟩
/-! ### _law_sizes, _law_fast -/
abbrev pP : List Str := ["_law_plan_here"]
theorem scSizes : FnScope ["_law_plan_here", "_law_found", "_law_ahead", "_law_at"] pP (defScope sSizes) := ⟨rfl, rfl, rfl, by decide +kernel, rfl, by decide +kernel, by decide +kernel⟩
theorem scFast : FnScope ["_law_plan_here", "_law_sizes_here", "_law_found", "_law_at"] pP (defScope sFast) := ⟨rfl, rfl, rfl, by decide +kernel, rfl, by decide +kernel, by decide +kernel⟩
/-- a list of one number more than the plan has letters -/
def spSizes : Sp := fun vs H Q _ => ∃ l : List Nat, vs = [.str (S l)] ∧ l.length ≤ 200 ∧ ∀ (H' : Hp) (p : Addr) (ns : List Int), Same H H' → ns.length = l.length + 1 → H' p = some (.lst (ns.map V.int)) → Q (.ref p) H'
theorem ok_sizes {f : Addr} {fd : FuncData} (F : Fun K "_law_sizes" "_law_sizes" sSizes f fd) (ml : mg "len" = none) (mr : mg "range" = none) : FnOk P w K mg base CX0 1 f fd pP spSizes := by
  refine F.ok scSizes (fun vs H Q E h => ?_) (fun cdv A outer s H vs Q E hr h => ?_)
  · obtain ⟨l, rfl, _⟩ := h
    rfl
  · obtain ⟨l, rfl, len, q⟩ := h
    refine ⟨_, pss_cons (ps_par rfl scSizes.nd (i := 1) (j := 2) rfl rfl (by decide) rfl rfl (pa_cons (pe_lst (pa_cons pe_int pa_nil)) (pa_cons pe_dnewK pa_nil)) (by rfl))
      (pss_cons (ps_for PassesOwn.never rfl (pi_range1 (by rfl) mr (pa_cons (pe_callB call_len (by rfl) ml PySem.boot_len (pa_cons (pv 0) pa_nil)) pa_nil)) (pg_name (i := 3) scSizes.nd rfl (.inl rfl))
        (pss_cons (ps_expr (pe_bm PySem.F.plainAttrs_list PySem.F.slot_list_append PySem.F.type_list_append mt_append (pv 1) (pa_cons
            (pe_ifExp (pt_cmp (pc_din (hu_of hr) (pe_item_str (pv 0) (pv 3) (fun _ _ => rfl)) (pv 2)))
              (pe_op op_sub (pe_op op_mul pe_int (pe_ix ix_list (pv 1) (pe_un un_neg pe_int) (fun _ _ => rfl))) (pe_ix ix_list (pv 1) (pe_dget (hu_of hr) (pv 2) (pe_item_str (pv 0) (pv 3) (fun _ _ => rfl)) (fun _ _ => rfl)) (fun _ _ => rfl)))
              (pe_op op_add (pe_op op_mul pe_int (pe_ix ix_list (pv 1) (pe_un un_neg pe_int) (fun _ _ => rfl))) pe_int)) pa_nil)))
        (pss_one (ps_dput (hu_of hr) (pv 2) (pe_item_str (pv 0) (pv 3) (fun _ _ => rfl)) (pv 3) rfl))))
      (pss_one (ps_ret (pv 1)))), ?_⟩
    have sl : (S l).length = l.length := S_len l
    have lenOk : (S l).length ≤ sizeLine := small (by omega)
    refine ⟨by show 1 ≤ sizeLine; decide, fun L nL d nd => ⟨_, _, rfl, ?_⟩⟩
    have Ld : L ≠ d := ne_of_none upd_same nd
    have s0 : Same H (upd (upd H L (.lst [.int 0])) d (.dK [])) := (same_new nL _).trans (same_new nd _)
    refine ⟨_, rfl, .str (S l), l.length, rfl, ⟨lenOk, sl.symm⟩, l.length, rfl, by omega, by omega, ?_⟩
    refine for_range (fun i σ H' => ∃ (ns : List Int) (kvs : List (Key × V)) (y3 : Option V), σ = [some (.str (S l)), some (.ref L), some (.ref d), y3] ∧ Same H H' ∧ ns.length = i + 1 ∧ H' L = some (.lst (ns.map V.int)) ∧ H' d = some (.dK kvs) ∧ kvs.length ≤ i ∧
        ∀ k v, valV kvs k = some v → ∃ j : Nat, v = .int j ∧ j < i)
      ⟨[0], [], none, rfl, s0, rfl, by rw [upd_ne Ld]; exact upd_same, upd_same, Nat.le_refl _, (fun k v h => by cases h)⟩ (fun i σ H1 hi p => ?_) (fun σ H1 p => ?_)
    · obtain ⟨ns, kvs, y3, rfl, sm, hns, hL, hd, hk, hv⟩ := p
      have hi' : i < l.length := by omega
      have sg1 : (S l).cps[(0 + (i : Int)).toNat]? = some (l.getD i 0) := by
        rw [show (0 + (i : Int)).toNat = i by omega]
        exact sign_at hi'
      have nL0 : H L = none := nL
      have nd0 : H d = none := by
        have := nd
        rw [upd_ne (Ne.symm Ld)] at this
        exact this
      obtain ⟨z, hz⟩ : ∃ z, atI (ns.map V.int) (-1) = some (.int z) := by
        have : ns ≠ [] := fun e => by rw [e] at hns; cases hns
        refine ⟨ns.getLast this, ?_⟩
        have e : ns.map V.int = ns.dropLast.map V.int ++ [.int (ns.getLast this)] := by
          rw [← List.map_singleton, ← List.map_append, List.dropLast_concat_getLast]
        rw [e]
        exact atI_last _ _
      have fin : ∀ v : Int, H1 L = some (.lst (ns.map V.int)) ∧ (ns.map V.int).length < sizeLine ∧
          sDPut (tVar 2) (tOp (fun x y H Q => ∃ z i c, x = V.str z ∧ y = V.int i ∧ 0 ≤ i ∧ i < 2 ^ 63 ∧ i < z.length ∧ z.cps[i.toNat]? = some c ∧ Q (V.str ⟨#[c]⟩) H) (tVar 0) (tVar 3)) (tVar 3)
            { nx := fun σ H' => ∃ (ns : List Int) (kvs : List (Key × V)) (y3 : Option V), σ = [some (.str (S l)), some (.ref L), some (.ref d), y3] ∧ Same H H' ∧ ns.length = i + 1 + 1 ∧ H' L = some (.lst (ns.map V.int)) ∧ H' d = some (.dK kvs) ∧ kvs.length ≤ i + 1 ∧
                ∀ k v, valV kvs k = some v → ∃ j : Nat, v = .int j ∧ j < i + 1, rt := Q }
            [some (.str (S l)), some (.ref L), some (.ref d), some (.int (0 + i))] (upd H1 L (.lst (ns.map V.int ++ [.int v]))) := by
        intro v
        refine ⟨hL, by rw [List.length_map]; exact smallL (by omega), ?_⟩
        have hd2 : (upd H1 L (.lst (ns.map V.int ++ [.int v]))) d = some (.dK kvs) := by
          rw [upd_ne (Ne.symm Ld)]
          exact hd
        refine ⟨_, rfl, _, rfl, _, rfl, _, rfl, S l, _, _, rfl, rfl, by omega, by omega, by omega, sg1, d, _, rfl, DPut.k (k := .inr ⟨#[l.getD i 0]⟩) hd2 (smallL (by omega)), ?_⟩
        refine ⟨ns ++ [v], _, _, rfl, same_put nd0 (same_put nL0 sm), by simp [hns], ?_, upd_same, ?_, fun k u hu => ?_⟩
        · rw [upd_ne Ld, upd_same, List.map_append]
          rfl
        · have := length_putK kvs (.inr ⟨#[l.getD i 0]⟩) (.int (0 + (i : Int)))
          omega
        · rw [valV_put] at hu
          by_cases e : k = .inr ⟨#[l.getD i 0]⟩
          · rw [if_pos e] at hu
            refine ⟨i, ?_, by omega⟩
            rw [← Option.some.inj hu, Int.zero_add]
          · rw [if_neg e] at hu
            obtain ⟨j, h1, h2⟩ := hv k u hu
            exact ⟨j, h1, by omega⟩
      refine ⟨_, rfl, .inl ⟨rfl, _, SqL.of hL⟩, ?_⟩
      have g := DGet.k (k := .inr ⟨#[l.getD i 0]⟩) hd
      refine ⟨_, rfl, _, rfl, S l, _, _, rfl, rfl, by omega, by omega, by omega, sg1, _, rfl, d, _, rfl, g, _, rfl, ?_⟩
      cases hg : valV kvs (.inr ⟨#[l.getD i 0]⟩) with
      | some u =>
        rw [hg] at g
        obtain ⟨j, rfl, hj⟩ := hv _ u hg
        obtain ⟨u, hu⟩ : ∃ u, ns[j]? = some u := ⟨_, List.getElem?_eq_getElem (by omega)⟩
        refine ⟨_, rfl, 1, rfl, L, _, _, _, rfl, rfl, SqL.of hL, hz, 2, z, rfl, rfl, .inl ⟨by decide, by decide⟩, ?_⟩
        refine ⟨_, rfl, _, rfl, _, rfl, _, rfl, S l, _, _, rfl, rfl, by omega, by omega, by omega, sg1, d, _, rfl, g, L, _, _, .int u, rfl, rfl, SqL.of hL, ?_, _, _, rfl, rfl, L, _, _, rfl, rfl, fin _⟩
        exact atI_nat (by rw [List.getElem?_map, hu]; rfl)
      | none =>
        refine iteF ?_
        refine ⟨_, rfl, 1, rfl, L, _, _, _, rfl, rfl, SqL.of hL, hz, 2, z, rfl, rfl, .inl ⟨by decide, by decide⟩, ?_⟩
        exact ⟨_, _, rfl, rfl, L, _, _, rfl, rfl, fin _⟩
    · obtain ⟨ns, kvs, y3, rfl, sm, hns, hL, hd, hk, hv⟩ := p
      exact ⟨_, rfl, q H1 L ns sm (by omega) hL⟩
theorem cut_part (l : List Nat) (lo hi : Option Int) : ∃ t : List Nat, cutS (S l) lo hi = S t ∧ t.length ≤ l.length ∧ ∀ c, c ∈ t → c ∈ l := by
  unfold cutS
  rw [S_list, S_len]
  refine ⟨_, rfl, ?_, fun c hc => List.mem_of_mem_drop (List.mem_of_mem_take hc)⟩
  simp only [List.length_take, List.length_drop]
  omega
/-- some word, shorter than 2 ^ the plan's length -/
def spFast : Sp := fun vs H Q _ => ∃ l : List Nat, vs = [.str (S l)] ∧ Let l ∧ l.length ≤ 10 ∧ ∀ H' t, Same H H' → Let t → t.length + 1 ≤ 2 ^ l.length → Q (.str (S t)) H'
theorem ok_fast {f g : Addr} {fd gd : FuncData} (F : Fun K "_law_fast" "_law_fast" sFast f fd) (G : FnOk P w K mg base CX0 1 g gd pP spSizes) (bG : Binds K gd pP []) (kG : PySem.W.keepIn K (.ref g) = true) (mG : mg "_law_sizes" = some (.ref g)) (ml : mg "len" = none) (mr : mg "range" = none) :
    FnOk P w K mg base CX0 2 f fd pP spFast := by
  refine F.ok scFast (fun vs H Q E h => ?_) (fun cdv A outer s H vs Q E hr h => ?_)
  · obtain ⟨l, rfl, _⟩ := h
    rfl
  · obtain ⟨l, rfl, letl, len, q⟩ := h
    refine ⟨_, pss_cons (ps_par rfl scFast.nd (i := 1) (j := 2) rfl rfl (by decide) rfl rfl (pa_cons (pe_call G hr (by rfl) mG kG bG .nil pass0 (pa_cons (pv 0) pa_nil)) (pa_cons pe_str pa_nil)) (by rfl))
      (pss_cons (ps_for PassesOwn.never rfl (pi_range1 (by rfl) mr (pa_cons (pe_callB call_len (by rfl) ml PySem.boot_len (pa_cons (pv 0) pa_nil)) pa_nil)) (pg_name (i := 3) scFast.nd rfl (.inl rfl))
        (pss_one (ps_set (i := 2) scFast.nd rfl (.inl rfl) (pe_op op_add_str
          (pe_slice sl_str (pe_op op_add_str (pv 2) (pe_item_str (pv 0) (pv 3) (fun _ _ => rfl))) po_none
            (po_some (pe_op op_sub (pe_ix ix_list (pv 1) (pe_op op_add (pv 3) pe_int) (fun _ _ => rfl)) (pe_ix ix_list (pv 1) (pv 3) (fun _ _ => rfl)))))
          (pv 2)))))
      (pss_one (ps_ret (pv 2)))), ?_⟩
    have sl : (S l).length = l.length := S_len l
    have lenOk : (S l).length ≤ sizeLine := small (by omega)
    refine ⟨_, rfl, l, rfl, by omega, fun H1 L ns s1 hns hL => ⟨_, _, rfl, ?_⟩⟩
    refine ⟨_, rfl, .str (S l), l.length, rfl, ⟨lenOk, sl.symm⟩, l.length, rfl, by omega, by omega, ?_⟩
    have numAt : ∀ (i : Nat) (j : Int), i < ns.length → j = i → ∃ z, atI (ns.map V.int) j = some (.int z) := fun i j hi ej => by
      subst ej
      exact ⟨_, atI_nat (by rw [List.getElem?_map, List.getElem?_eq_getElem hi]; rfl)⟩
    refine for_range (fun i σ H' => ∃ (t : List Nat) (y3 : Option V), σ = [some (.str (S l)), some (.ref L), some (.str (S t)), y3] ∧ H' = H1 ∧ Let t ∧ t.length + 1 ≤ 2 ^ i)
      ⟨[], none, rfl, rfl, (fun c hc => by cases hc), Nat.le_refl _⟩ (fun i σ H2 hi p => ?_) (fun σ H2 p => ?_)
    · obtain ⟨t, y3, rfl, rfl, lett, ht⟩ := p
      have hi' : i < l.length := by omega
      have t9 : 2 ^ i ≤ 2 ^ 9 := Nat.pow_le_pow_right (by decide) (by omega)
      have sg1 : (S l).cps[(0 + (i : Int)).toNat]? = some (l.getD i 0) := by
        rw [show (0 + (i : Int)).toNat = i by omega]
        exact sign_at hi'
      have inl : l.getD i 0 ∈ l := by
        have e := sign_at hi'
        rw [S_at] at e
        exact List.mem_of_getElem? e
      obtain ⟨z1, h1⟩ := numAt (i + 1) (0 + (i : Int) + 1) (by omega) (by omega)
      obtain ⟨z2, h2⟩ := numAt i (0 + (i : Int)) (by omega) (by omega)
      have ea : S t ++ S [l.getD i 0] = S (t ++ [l.getD i 0]) := S_app _ _
      refine ⟨_, rfl, _, rfl, _, rfl, S l, _, _, rfl, rfl, by omega, by omega, by omega, sg1, S t, S [l.getD i 0], rfl, rfl, ?_, ?_⟩
      · rw [S_len, S_len]
        exact small (by simp; omega)
      · refine ⟨_, rfl, _, rfl, _, _, rfl, rfl, L, _, _, _, rfl, rfl, SqL.of hL, h1, _, rfl, _, rfl, L, _, _, _, rfl, rfl, SqL.of hL, h2, _, _, rfl, rfl, _, rfl, S t ++ S [l.getD i 0], rfl, ?_, ?_⟩
        · rw [ea, S_len]
          exact small (by simp; omega)
        · obtain ⟨u, eu, lu, mu⟩ := cut_part (t ++ [l.getD i 0]) none (some (z1 - z2))
          rw [ea, eu]
          refine ⟨_, rfl, S u, S t, rfl, rfl, ?_, u ++ t, some (.int (0 + (i : Int))), ?_, rfl, fun c hc => ?_, ?_⟩
          · rw [S_len, S_len]
            rw [List.length_append, List.length_singleton] at lu
            exact small (by omega)
          · rw [S_app]
            rfl
          · rcases List.mem_append.mp hc with h | h
            · rcases List.mem_append.mp (mu c h) with h | h
              · exact lett c h
              · rw [List.mem_singleton.mp h]
                exact letl _ inl
            · exact lett c h
          · rw [List.length_append, Nat.pow_succ]
            rw [List.length_append, List.length_singleton] at lu
            omega
    · obtain ⟨t, y3, rfl, rfl, lett, ht⟩ := p
      exact ⟨_, rfl, q _ t s1 lett ht⟩
end
end Pm
namespace Pm
open L2 PySem PySem.Spec PyProof.Rows
theorem any2 {K : PySem.W.Frag} {n : String} {b c : Bool} (h1 : kitB n "tuple" = some b) (h2 : kitB n "list" = some c) : PySem.W.kitAny K (.type n) [.type "tuple", .type "list"] = some (b || c) := by
  cases b with
  | true => exact kitAny_cons (kit_ty h1) (fun h => nomatch h) (fun _ => rfl)
  | false =>
    refine kitAny_cons (kit_ty h1) (fun _ => ?_) (fun h => nomatch h)
    cases c with
    | true => exact kitAny_cons (kit_ty h2) (fun h => nomatch h) (fun _ => rfl)
    | false => exact kitAny_cons (kit_ty h2) (fun _ => kitAny_nil) (fun h => nomatch h)
section
variable {w : World} {P : Program} {K : PySem.W.Frag} {base : Heap} {mg : Str → Option Value}
abbrev pA : List Str := ["_law_found", "_law_due"]
abbrev nA : List Str := ["_law_found", "_law_due", "_law_k"]
theorem scAlike : FnScope nA pA (defScope sAlike) := ⟨rfl, rfl, rfl, by decide +kernel, rfl, by decide +kernel, by decide +kernel⟩
def spAlike0 : Sp := fun vs H Q _ => ∃ x : V, ((∃ i, x = .int i) ∨ ∃ z, x = .str z) ∧ vs = [x, x] ∧ ∀ H', Same H H' → Q (.bl true) H'
def spAlike1 : Sp := fun vs H Q _ => ∃ (a b : Addr) (i : Int) (z : Str), vs = [.ref a, .ref b] ∧ H a = some (.lst [.int i, .str z]) ∧ H b = some (.lst [.int i, .str z]) ∧ ∀ H', Same H H' → Q (.bl true) H'
structure NoNames (mg : Str → Option Value) : Prop where
  isi : mg "isinstance" = none
  tup : mg "tuple" = none
  lst : mg "list" = none
  str : mg "str" = none
  int : mg "int" = none
  bool : mg "bool" = none
  len : mg "len" = none
  range : mg "range" = none
theorem ok_alike0 {f : Addr} {fd : FuncData} (F : Fun K "_law_alike" "_law_alike" sAlike f fd) (N : NoNames mg) : FnOk P w K mg base CX0 1 f fd pA spAlike0 := by
  refine F.ok scAlike (fun vs H Q E h => ?_) (fun cdv A outer s H vs Q E hr h => ?_)
  · obtain ⟨x, _, rfl, _⟩ := h
    rfl
  · obtain ⟨x, hx, rfl, q⟩ := h
    refine ⟨_, pss_cons (ps_if (pt_val (pe_callB call_isiT (by rfl) N.isi (by decide +kernel) (pa_cons (pv 1) (pa_cons (pe_tup (pa_cons (pe_bltn (v := .ty "tuple") (by rfl) N.tup (by decide +kernel) rfl) (pa_cons (pe_bltn (v := .ty "list") (by rfl) N.lst (by decide +kernel) rfl) pa_nil))) pa_nil)))) pss_never pss_nil)
      (pss_cons (ps_if (PW.pt (pw_or (pt_cmpR op_isN (pv 1) pe_non (nomark _)) (pw_or1 (pt_val (pe_callB call_isi (by rfl) N.isi (by decide +kernel) (pa_cons (pv 1) (pa_cons (pe_bltn (v := .ty "str") (by rfl) N.str (by decide +kernel) rfl) pa_nil)))))))
        (pss_one (ps_ret (pe_and (pe_cmpR op_eq (pv 0) (pv 1) (nomark _)) (pe_one (pe_cmpR op_eq
          (pe_callB call_isi (by rfl) N.isi (by decide +kernel) (pa_cons (pv 0) (pa_cons (pe_bltn (v := .ty "str") (by rfl) N.str (by decide +kernel) rfl) pa_nil)))
          (pe_callB call_isi (by rfl) N.isi (by decide +kernel) (pa_cons (pv 1) (pa_cons (pe_bltn (v := .ty "str") (by rfl) N.str (by decide +kernel) rfl) pa_nil))) (nomark _)))))) pss_nil)
      (pss_one (ps_ret (pe_and (pe_callB call_isi (by rfl) N.isi (by decide +kernel) (pa_cons (pv 0) (pa_cons (pe_bltn (v := .ty "int") (by rfl) N.int (by decide +kernel) rfl) pa_nil)))
        (pe_and (pe_cmpR op_eq
          (pe_callB call_isi (by rfl) N.isi (by decide +kernel) (pa_cons (pv 0) (pa_cons (pe_bltn (v := .ty "bool") (by rfl) N.bool (by decide +kernel) rfl) pa_nil)))
          (pe_callB call_isi (by rfl) N.isi (by decide +kernel) (pa_cons (pv 1) (pa_cons (pe_bltn (v := .ty "bool") (by rfl) N.bool (by decide +kernel) rfl) pa_nil))) (nomark _))
          (pe_one (pe_cmpR op_eq (pv 0) (pv 1) (nomark _)))))))), ?_⟩
    have z2 : 2 ≤ sizeLine := by decide
    refine ⟨_, rfl, z2, fun T nT => ?_⟩
    have sT := same_new nT (.tup [.ty "tuple", .ty "list"])
    rcases hx with ⟨i, rfl⟩ | ⟨z, rfl⟩
    · refine ⟨.int i, T, _, .type "int", _, false, rfl, upd_same, .cons (.ty _) (.cons (.ty _) .nil), .base (.int i), any2 (b := false) (c := false) (by decide +kernel) (by decide +kernel), false, rfl, iteF ?_⟩
      refine ⟨_, rfl, rfl, false, rfl, iteF ?_⟩
      refine ⟨_, rfl, .int i, .ty "str", .type "int", .type "str", false, rfl, .ty "str", .base (.int i), kit_ty (by decide +kernel), false, rfl, iteF ?_⟩
      refine ⟨_, rfl, .int i, .ty "int", .type "int", .type "int", true, rfl, .ty "int", .base (.int i), kit_ty (by decide +kernel), true, rfl, ?_⟩
      refine ⟨_, rfl, .int i, .ty "bool", .type "int", .type "bool", false, rfl, .ty "bool", .base (.int i), kit_ty (by decide +kernel), ?_⟩
      refine ⟨_, rfl, .int i, .ty "bool", .type "int", .type "bool", false, rfl, .ty "bool", .base (.int i), kit_ty (by decide +kernel), rfl, true, rfl, ?_⟩
      refine ⟨_, rfl, _, rfl, rfl, ?_⟩
      rw [decide_eq_true rfl]
      exact q _ sT
    · refine ⟨.str z, T, _, .type "str", _, false, rfl, upd_same, .cons (.ty _) (.cons (.ty _) .nil), .base (.str z), any2 (b := false) (c := false) (by decide +kernel) (by decide +kernel), false, rfl, iteF ?_⟩
      refine ⟨_, rfl, rfl, false, rfl, iteF ?_⟩
      refine ⟨_, rfl, .str z, .ty "str", .type "str", .type "str", true, rfl, .ty "str", .base (.str z), kit_ty (by decide +kernel), true, rfl, ?_⟩
      refine ⟨_, rfl, _, rfl, rfl, true, by rw [decide_eq_true rfl], ?_⟩
      refine ⟨_, rfl, .str z, .ty "str", .type "str", .type "str", true, rfl, .ty "str", .base (.str z), kit_ty (by decide +kernel), ?_⟩
      refine ⟨_, rfl, .str z, .ty "str", .type "str", .type "str", true, rfl, .ty "str", .base (.str z), kit_ty (by decide +kernel), rfl, ?_⟩
      rw [decide_eq_true rfl]
      exact q _ sT
theorem ok_alike1 {f : Addr} {fd : FuncData} (F : Fun K "_law_alike" "_law_alike" sAlike f fd) (G : FnOk P w K mg base CX0 1 f fd pA spAlike0) (bG : Binds K fd pA []) (mG : mg "_law_alike" = some (.ref f)) (N : NoNames mg) : FnOk P w K mg base CX0 2 f fd pA spAlike1 := by
  refine F.ok scAlike (fun vs H Q E h => ?_) (fun cdv A outer s H vs Q E hr h => ?_)
  · obtain ⟨a, b, i, z, rfl, _⟩ := h
    rfl
  · obtain ⟨a, b, i₀, z, rfl, ha, hb, q⟩ := h
    refine ⟨_, pss_cons (ps_if (pt_val (pe_callB call_isiT (by rfl) N.isi (by decide +kernel) (pa_cons (pv 1) (pa_cons (pe_tup (pa_cons (pe_bltn (v := .ty "tuple") (by rfl) N.tup (by decide +kernel) rfl) (pa_cons (pe_bltn (v := .ty "list") (by rfl) N.lst (by decide +kernel) rfl) pa_nil))) pa_nil))))
      (pss_cons (ps_if (PW.pt (pw_or (pt_not (pt_val (pe_callB call_isiT (by rfl) N.isi (by decide +kernel) (pa_cons (pv 0) (pa_cons (pe_tup (pa_cons (pe_bltn (v := .ty "tuple") (by rfl) N.tup (by decide +kernel) rfl) (pa_cons (pe_bltn (v := .ty "list") (by rfl) N.lst (by decide +kernel) rfl) pa_nil))) pa_nil)))))
          (pw_or1 (pt_cmpR op_ne (pe_callB call_isi (by rfl) N.isi (by decide +kernel) (pa_cons (pv 0) (pa_cons (pe_bltn (v := .ty "list") (by rfl) N.lst (by decide +kernel) rfl) pa_nil)))
            (pe_callB call_isi (by rfl) N.isi (by decide +kernel) (pa_cons (pv 1) (pa_cons (pe_bltn (v := .ty "list") (by rfl) N.lst (by decide +kernel) rfl) pa_nil))) (nomark _))))) pss_never pss_nil)
      (pss_cons (ps_if (pt_cmpR op_ne (pe_callB call_len_seq (by rfl) N.len PySem.boot_len (pa_cons (pv 0) pa_nil)) (pe_callB call_len_seq (by rfl) N.len PySem.boot_len (pa_cons (pv 1) pa_nil)) (nomark _)) pss_never pss_nil)
      (pss_one (ps_ret (pe_cmpR (op_eqD hr.units) (pe_lc (own := [("_law_k", 2)]) (g := gName 2) rfl scAlike.nd
          (pi_range1 (by rfl) N.range (pa_cons (pe_callB call_len_seq (by rfl) N.len PySem.boot_len (pa_cons (pv 1) pa_nil)) pa_nil))
          (blkOk_by (own := [("_law_k", 2)]) (N := nA) (sc := defScope sAlike) (by decide +kernel)) (fun _ _ _ _ _ => pg_name (i := 2) scAlike.nd rfl (.inl rfl))
          (fun _ _ _ _ _ => pts_one (pt_not (pt_val (pe_call G hr (by rfl) mG F.kp bG .nil pass0 (pa_cons (pe_ix (r := rIxL K) ix_list (pv 0) (pv 2) (fun _ _ => rfl)) (pa_cons (pe_ix (r := rIxL K) ix_list (pv 1) (pv 2) (fun _ _ => rfl)) pa_nil))))))
          (fun _ _ _ _ _ => pv 2)) (pe_lst pa_nil) (nomark _)))))) pss_nil)
      pss_never, ?_⟩
    have z2 : 2 ≤ sizeLine := by decide
    refine ⟨_, rfl, z2, fun T nT => ?_⟩
    have sT := same_new nT (.tup [.ty "tuple", .ty "list"])
    refine ⟨.ref b, T, _, .type "list", _, true, rfl, upd_same, .cons (.ty _) (.cons (.ty _) .nil), .base (.lst (sT _ _ hb)), any2 (b := false) (c := true) (by decide +kernel) (by decide +kernel), true, rfl, ?_⟩
    refine ⟨_, rfl, z2, fun T2 nT2 => ?_⟩
    have sT2 := sT.trans (same_new nT2 (.tup [.ty "tuple", .ty "list"]))
    refine ⟨.ref a, T2, _, .type "list", _, true, rfl, upd_same, .cons (.ty _) (.cons (.ty _) .nil), .base (.lst (sT2 _ _ ha)), any2 (b := false) (c := true) (by decide +kernel) (by decide +kernel), true, rfl, iteF ?_⟩
    refine ⟨_, rfl, .ref a, .ty "list", .type "list", .type "list", true, rfl, .ty "list", .base (.lst (sT2 _ _ ha)), kit_ty (by decide +kernel), ?_⟩
    refine ⟨_, rfl, .ref b, .ty "list", .type "list", .type "list", true, rfl, .ty "list", .base (.lst (sT2 _ _ hb)), kit_ty (by decide +kernel), rfl, _, rfl, iteNS rfl ?_⟩
    generalize (upd (upd H T (.tup [.ty "tuple", .ty "list"])) T2 (.tup [.ty "tuple", .ty "list"])) = H1 at sT2 ⊢
    have ha1 := sT2 _ _ ha
    have hb1 := sT2 _ _ hb
    refine ⟨_, rfl, a, _, rfl, .inl (SqL.of ha1), _, rfl, b, _, rfl, .inl (SqL.of hb1), rfl, _, rfl, iteNS rfl ?_⟩
    refine ⟨_, rfl, b, _, rfl, .inl (SqL.of hb1), 2, rfl, by decide, by decide, fun D nD => ?_⟩
    refine lc_range (lo := 0) (n := 2) (fun i H' => Same H1 H' ∧ H' D = some (.lst [])) ⟨same_new nD _, upd_same⟩ (fun i H' hi p => ?_) (fun H' p => ?_)
    · obtain ⟨sm, hD⟩ := p
      obtain ⟨x, hx, at1⟩ : ∃ x : V, ((∃ i, x = .int i) ∨ ∃ z, x = .str z) ∧ atI [V.int i₀, V.str z] (0 + (i : Nat)) = some x := by
        match i, hi with
        | 0, _ => exact ⟨.int i₀, .inl ⟨_, rfl⟩, atI_nat (j := 0) rfl⟩
        | 1, _ => exact ⟨.str z, .inr ⟨_, rfl⟩, atI_nat (j := 1) rfl⟩
      refine ⟨rfl, _, rfl, _, rfl, a, _, _, x, rfl, rfl, SqL.of (sm _ _ ha1), at1, _, rfl, _, rfl, b, _, _, x, rfl, rfl, SqL.of (sm _ _ hb1), at1, x, hx, rfl, fun H2 s2 => ?_⟩
      refine ⟨true, rfl, ?_⟩
      exact ⟨sm.trans s2, s2 _ _ hD⟩
    · obtain ⟨sm, hD⟩ := p
      refine ⟨Nat.zero_le _, fun e ne => ?_⟩
      have se := same_new ne (.lst [])
      refine ⟨.list [], .list [], .lst (SqL.of (se _ _ hD)) .nil, .lst (SqL.of upd_same) .nil, rfl, rfl, ?_⟩
      exact q _ (sT2.trans (sm.trans se))
end
end Pm
/-! the mathematics of the law's own reckoning -/
namespace Pm
open L2 PySem PySem.Spec PyProof.Rows
abbrev tz (z : Str) : List Nat := z.cps.toList
theorem tz_inj {x y : Str} (h : tz x = tz y) : x = y := by
  rw [← S_of x, ← S_of y]
  exact congrArg S h
theorem tz_len (z : Str) : z.length = (tz z).length := by
  show z.cps.size = z.cps.toList.length
  rw [Array.length_toList]
theorem tz_app (x : Str) (c : Nat) : tz (x ++ sg c) = tz x ++ [c] := by
  show (x.cps ++ #[c]).toList = _
  rw [Array.toList_append]
/-- all that is left of a word with one letter more -/
theorem sub_more {y : Str} {m : List Nat} {c : Nat} : (tz y).Sublist (m ++ [c]) ↔ (tz y).Sublist m ∨ ∃ z : Str, (tz z).Sublist m ∧ y = z ++ sg c := by
  rw [sub_snoc]
  constructor
  · rintro (h | ⟨r, e, h⟩)
    · exact .inl h
    · exact .inr ⟨S r, h, tz_inj (by rw [tz_app, e]; rfl)⟩
  · rintro (h | ⟨z, h, rfl⟩)
    · exact .inl h
    · exact .inr ⟨tz z, tz_app z c, h⟩
theorem tz_rev (z : Str) : tz (revS z) = (tz z).reverse := by
  show z.cps.reverse.toList = _
  rw [Array.toList_reverse]
abbrev isPal (z : Str) : Bool := decide (V.str z = V.str (revS z))
theorem isPal_iff (z : Str) : isPal z = true ↔ pal (tz z) := by
  unfold isPal pal
  rw [decide_eq_true_iff]
  constructor
  · intro h
    have := congrArg tz (V.str.inj h)
    rw [tz_rev] at this
    exact this.symm
  · intro h
    have : z = revS z := tz_inj (by
      rw [tz_rev]
      exact h.symm)
    exact congrArg V.str this
/-- all that is left of the word l -/
def Lots (l : List Nat) (zs : List Str) : Prop := ∀ y : Str, y ∈ zs ↔ (tz y).Sublist l
theorem lots_mir {l : List Nat} {zs : List Str} (h : Lots l zs) (y : Str) : y ∈ zs.filter isPal ↔ (tz y).Sublist l ∧ pal (tz y) := by
  rw [List.mem_filter, h y, isPal_iff]
theorem least_in {l : List Nat} {zs : List Str} (h : Lots l zs) : S (least l l.length 0) ∈ zs.filter isPal := by
  have b := best_all l
  exact (lots_mir h _).2 ⟨b.sub, b.mir⟩
theorem most_is {l : List Nat} {zs : List Str} (h : Lots l zs) {m : Int} (hm : m ∈ (zs.filter isPal).map fun z => ((z.length : Nat) : Int)) (top : ∀ y, y ∈ ((zs.filter isPal).map fun z => ((z.length : Nat) : Int)) → y ≤ m) : m = (lps l l.length 0 : Nat) := by
  have b := best_all l
  obtain ⟨z, hz, rfl⟩ := List.mem_map.mp hm
  obtain ⟨h1, h2⟩ := (lots_mir h z).1 hz
  have up := b.top _ h1 h2
  have lo := top _ (List.mem_map.mpr ⟨_, least_in h, rfl⟩)
  rw [S_len, b.len] at lo
  rw [tz_len] at lo ⊢
  omega
abbrev isLen (m : Int) (z : Str) : Bool := decide (V.int ((z.length : Nat) : Int) = V.int m)
theorem due_is {l : List Nat} {zs : List Str} (h : Lots l zs) : ((zs.filter isPal).filter (isLen (lps l l.length 0 : Nat))) ≠ [] ∧
    ∀ y, y ∈ (zs.filter isPal).filter (isLen (lps l l.length 0 : Nat)) → (∀ x, x ∈ (zs.filter isPal).filter (isLen (lps l l.length 0 : Nat)) → ¬ ltS x y) → y = S (least l l.length 0) := by
  have b := best_all l
  have inn : S (least l l.length 0) ∈ (zs.filter isPal).filter (isLen (lps l l.length 0 : Nat)) := by
    refine List.mem_filter.mpr ⟨least_in h, ?_⟩
    unfold isLen
    rw [S_len, b.len]
    exact decide_eq_true rfl
  refine ⟨(fun e => by rw [e] at inn; cases inn), fun y hy low => ?_⟩
  obtain ⟨h1, h2⟩ := List.mem_filter.mp hy
  obtain ⟨h3, h4⟩ := (lots_mir h y).1 h1
  have h5 : (tz y).length = lps l l.length 0 := by
    have := V.int.inj (of_decide_eq_true h2)
    rw [tz_len] at this
    omega
  refine tz_inj (eq_of_not_lt (b.low _ h3 h4 h5) ?_)
  exact low _ inn
/-! changed letters -/
theorem count_half (f : Nat → Bool) (k : Nat) (sym : ∀ j, j < k → f (k + j) = f (k - 1 - j)) : (List.range (k + k)).countP f = 2 * (List.range k).countP f := by
  rw [List.range_add, List.countP_append, List.countP_map]
  have e : (List.range k).countP (f ∘ fun x => k + x) = (List.range k).countP (f ∘ fun x => k - 1 - x) := by
    apply List.countP_congr
    intro j hj
    have := List.mem_range.mp hj
    show f (k + j) = true ↔ f (k - 1 - j) = true
    rw [sym j this]
  rw [e, ← List.countP_map, PySem.W.krv_range, List.countP_reverse]
  omega
theorem count_odd (f : Nat → Bool) (k : Nat) (mid : f k = false) (sym : ∀ j, j < k → f (k + 1 + j) = f (k - 1 - j)) : (List.range (k + 1 + k)).countP f = 2 * (List.range k).countP f := by
  rw [List.range_add, List.countP_append, List.countP_map, List.range_succ, List.countP_append]
  have e : (List.range k).countP (f ∘ fun x => k + 1 + x) = (List.range k).countP (f ∘ fun x => k - 1 - x) := by
    apply List.countP_congr
    intro j hj
    have := List.mem_range.mp hj
    show f (k + 1 + j) = true ↔ f (k - 1 - j) = true
    rw [sym j this]
  rw [e, ← List.countP_map, PySem.W.krv_range, List.countP_reverse]
  simp [mid]
  omega
abbrev unl (l : List Nat) (i : Nat) : Bool := l.getD i 0 != l.getD (l.length - 1 - i) 0
theorem getD_at {l : List Nat} {i : Nat} (h : i < l.length) : l[i]? = some (l.getD i 0) := by
  rw [List.getD_eq_getElem?_getD, List.getElem?_eq_getElem h]
  rfl
theorem rev_at {l : List Nat} {i : Nat} (h : i < l.length) : l.reverse[i]? = some (l.getD (l.length - 1 - i) 0) := by
  rw [List.getElem?_reverse h]
  exact getD_at (by omega)
theorem chg_range (l : List Nat) : chg l l.reverse = (List.range l.length).countP (unl l) := by
  unfold chg
  have e : l.zip l.reverse = (List.range l.length).map fun i => (l.getD i 0, l.getD (l.length - 1 - i) 0) := by
    apply List.ext_getElem?
    intro i
    by_cases h : i < l.length
    · rw [zip_at (getD_at h) (rev_at h), List.getElem?_map, List.getElem?_range h]
      rfl
    · rw [List.getElem?_eq_none (by simp; omega), List.getElem?_eq_none (by simp; omega)]
  rw [e, List.countP_map]
  rfl
theorem chg_half (l : List Nat) : chg l l.reverse = 2 * (List.range (l.length / 2)).countP (unl l) := by
  rw [chg_range]
  have sym : ∀ i, i < l.length → unl l i = unl l (l.length - 1 - i) := fun i h => by
    unfold unl
    rw [show l.length - 1 - (l.length - 1 - i) = i by omega]
    exact bne_comm
  rcases Nat.mod_two_eq_zero_or_one l.length with h | h
  · obtain ⟨k, hk⟩ : ∃ k, l.length = k + k := ⟨l.length / 2, by omega⟩
    have h2 : l.length / 2 = k := by omega
    rw [h2]
    have := count_half (unl l) k fun j hj => by
      rw [sym (k + j) (by omega)]
      congr 1
      omega
    rw [← hk] at this
    exact this
  · obtain ⟨k, hk⟩ : ∃ k, l.length = k + 1 + k := ⟨l.length / 2, by omega⟩
    have h2 : l.length / 2 = k := by omega
    rw [h2]
    have := count_odd (unl l) k (by
      unfold unl
      rw [show l.length - 1 - k = k by omega]
      simp) fun j hj => by
      rw [sym (k + 1 + j) (by omega)]
      congr 1
      omega
    rw [← hk] at this
    exact this
theorem fdiv_half (n : Nat) : ((2 * n : Nat) : Int).fdiv 2 = n := by
  rw [Int.fdiv_eq_ediv_of_nonneg _ (show (0 : Int) ≤ 2 by decide)]
  omega
theorem chg_self (l : List Nat) : chg l l = 0 := by
  unfold chg
  rw [List.countP_eq_zero]
  intro p hp
  have : ∀ (l : List Nat) (p : Nat × Nat), p ∈ l.zip l → p.1 = p.2 := by
    intro l
    induction l with
    | nil => intro p hp; cases hp
    | cons a l ih =>
      intro p hp
      rw [List.zip_cons_cons] at hp
      rcases List.mem_cons.mp hp with rfl | hp2
      · rfl
      · exact ih p hp2
  simp [this l p hp]
theorem chg_twice (l : List Nat) : chg (l ++ l.reverse) (l ++ l.reverse).reverse = 0 := by
  have : (l ++ l.reverse).reverse = l ++ l.reverse := by simp
  rw [this]
  exact chg_self _
theorem lows_at {l : List Nat} {i : Nat} (h : i < l.length) : (lows l l.reverse)[i]? = some (if l.getD (l.length - 1 - i) 0 < l.getD i 0 then l.getD (l.length - 1 - i) 0 else l.getD i 0) := by
  unfold lows
  rw [List.getElem?_map, zip_at (getD_at h) (rev_at h)]
  rfl
theorem lows_len (l : List Nat) : (lows l l.reverse).length = l.length := by
  unfold lows
  simp
end Pm
namespace Pm
open L2 PySem PySem.Spec PyProof.Rows
/-- len of a text -/
theorem call_lenS {X : Cx} : CallR X (.builtin "len") (fun xs H Q => ∃ z : Str, xs = [.str z] ∧ z.length ≤ sizeLine ∧ Q (.int (z.length : Nat)) H) := by
  rintro pins s σ H xs us Q I r ⟨z, rfl, hz, q⟩
  exact call_len pins s σ H _ us Q I r ⟨.str z, z.length, rfl, ⟨hz, rfl⟩, q⟩
theorem ne_dec (x y : Nat) : (!decide (V.str ⟨#[x]⟩ = V.str ⟨#[y]⟩)) = (x != y) := by
  by_cases h : x = y
  · subst h
    simp
  · have : ¬ V.str ⟨#[x]⟩ = V.str ⟨#[y]⟩ := fun e => h (by
      have := V.str.inj e
      simpa using this)
    rw [decide_eq_false this]
    simp [h]
theorem sign_a : PySem.Str.ofString "a" = S [97] := by decide +kernel
abbrev nLaw : List Str := ["_law_script", "_law_row", "_law_many", "_law_word", "_law_lots", "_law_letter", "_law_mirrors", "_law_most", "_law_due", "_law_unlike", "_law_told", "_law_whole", "_law_lot", "_law_at"]
theorem scLaw : FnScope nLaw ["_law_script"] (defScope sLaw) := ⟨rfl, rfl, rfl, by decide +kernel, rfl, by decide +kernel, by decide +kernel⟩
/-- what stands where the law is called: the defs by their promises, the built-ins' names -/
structure Given (P : Program) (w : World) (K : PySem.W.Frag) (mg : Str → Option Value) (base : Heap) (fT fW fN fF fA fP fL fC fM : Addr) (dT dW dN dF dA dP dL dC dM : FuncData) : Prop where
  gT : FnOk P w K mg base CX0 1 fT dT pT (spTaken K)
  gW : FnOk P w K mg base CX0 2 fW dW pW (spDraw K)
  gN : FnOk P w K mg base CX0 2 fN dN pW (spDraw K)
  gF : FnOk P w K mg base CX0 2 fF dF pP spFast
  gA : FnOk P w K mg base CX0 2 fA dA pA spAlike1
  gP : FnOk P w K mg base CX0 4 fP dP ["word"] spPutIn
  gL : FnOk P w K mg base CX0 10 fL dL ["word"] spLeftM
  gC : FnOk P w K mg base CX0 3 fC dC ["word"] spFewest
  gM : FnOk P w K mg base CX0 3 fM dM ["word"] spChanged
  mT : mg "_law_taken" = some (.ref fT)
  mW : mg "_law_word_of" = some (.ref fW)
  mN : mg "_law_plan" = some (.ref fN)
  mF : mg "_law_fast" = some (.ref fF)
  mA : mg "_law_alike" = some (.ref fA)
  mP : mg "fewest_put_in" = some (.ref fP)
  mL : mg "left_mirror" = some (.ref fL)
  mC : mg "fewest_changed" = some (.ref fC)
  mM : mg "changed_mirror" = some (.ref fM)
  kT : PySem.W.keepIn K (.ref fT) = true
  kW : PySem.W.keepIn K (.ref fW) = true
  kN : PySem.W.keepIn K (.ref fN) = true
  kF : PySem.W.keepIn K (.ref fF) = true
  kA : PySem.W.keepIn K (.ref fA) = true
  kP : PySem.W.keepIn K (.ref fP) = true
  kL : PySem.W.keepIn K (.ref fL) = true
  kC : PySem.W.keepIn K (.ref fC) = true
  kM : PySem.W.keepIn K (.ref fM) = true
  bT : Binds K dT pT []
  bW : Binds K dW pW []
  bN : Binds K dN pW []
  bF : Binds K dF pP []
  bA : Binds K dA pA []
  bP : Binds K dP ["word"] []
  bL : Binds K dL ["word"] []
  bC : Binds K dC ["word"] []
  bM : Binds K dM ["word"] []
  sorted : mg "sorted" = none
  set : mg "set" = none
  max : mg "max" = none
  min : mg "min" = none
  len : mg "len" = none
  range : mg "range" = none
def spLaw (K : PySem.W.Frag) : Sp := fun vs H Q _ => ∃ (a : Addr) (ns : List Int), vs = [.ref a] ∧ SqL K H a (ns.map V.int) ∧ ns.length ≤ 63 ∧ ∀ H', Q (.bl true) H'
section
variable {w : World} {P : Program} {K : PySem.W.Frag} {base : Heap} {mg : Str → Option Value} {fT fW fN fF fA fP fL fC fM : Addr} {dT dW dN dF dA dP dL dC dM : FuncData}
theorem ok_law {f : Addr} {fd : FuncData} (F : Fun K "law" "law" sLaw f fd) (T : Given P w K mg base fT fW fN fF fA fP fL fC fM dT dW dN dF dA dP dL dC dM) : FnOk P w K mg base CX0 11 f fd ["_law_script"] (spLaw K) := by
  refine F.ok scLaw (fun vs H Q E h => ?_) (fun cdv A outer s H vs Q E hr h => ?_)
  · obtain ⟨a, ns, rfl, _⟩ := h
    rfl
  · obtain ⟨sc, ns, rfl, hs, len, q⟩ := h
    refine ⟨_, (pss_cons (ps_set (i := 1) scLaw.nd rfl (.inl rfl) (pe_lst (pa_cons (pv 0) (pa_cons pe_int (pa_cons pe_int (pa_cons pe_int pa_nil))))))
      (pss_cons (ps_set (i := 2) scLaw.nd rfl (.inl rfl) (pe_op op_add pe_int (pe_call T.gT (hr.mono (by decide)) (by rfl) T.mT T.kT T.bT .nil pass0 (pa_cons (pv 1) (pa_cons pe_int pa_nil)))))
      (pss_cons (ps_set (i := 3) scLaw.nd rfl (.inr rfl) (pe_call T.gW (hr.mono (by decide)) (by rfl) T.mW T.kW T.bW .nil pass0 (pa_cons (pv 1) (pa_cons pe_int (pa_cons (pv 2) pa_nil)))))
      (pss_cons (ps_set (i := 4) scLaw.nd rfl (.inl rfl) (pe_lst (pa_cons pe_str pa_nil)))
      (pss_cons (ps_for PassesOwn.never rfl (pi_str (pv 3)) (pg_name (i := 5) scLaw.nd rfl (.inr rfl)) (pss_one (ps_set (i := 4) scLaw.nd rfl (.inl rfl) (pe_callB (cr_sortedZ rfl) (by rfl) T.sorted (by decide +kernel) (pa_cons (pe_callTy (cr_setZ rfl) (by rfl) T.set (by decide +kernel) (pa_cons (pe_op op_cat (pv 4) (pe_lc (own := [("_law_lot", 12)]) (g := gName 12) rfl scLaw.nd (pi_list (pv 4)) (blkOk_by (own := [("_law_lot", 12)]) (N := nLaw) (sc := defScope sLaw) (by decide +kernel)) (fun _ _ _ _ _ => pg_name (i := 12) scLaw.nd rfl (.inl rfl)) (fun _ _ _ _ _ => pts_nil) (fun _ _ _ _ _ => (pe_op op_add_str (pv 12) (pv 5))))) pa_nil)) pa_nil)))))
      (pss_cons (ps_setLc (i := 6) (own := [("_law_lot", 12)]) (g := gName 12) rfl scLaw.nd rfl rfl (sw_true rfl rfl rfl (by decide +kernel)) (pi_list (pv 4)) (blkOk_by (own := [("_law_lot", 12)]) (N := nLaw) (sc := defScope sLaw) (by decide +kernel)) (fun _ _ _ _ _ => pg_name (i := 12) scLaw.nd rfl (.inl rfl)) (fun _ _ _ _ _ => pts_one (pt_cmpR op_eq (pv 12) (pe_revS (pv 12)) (nomark _))) (fun _ _ _ _ _ => (pv 12)))
      (pss_cons (ps_set (i := 7) scLaw.nd rfl (.inr rfl) (pe_callB (cr_max rfl) (by rfl) T.max (by decide +kernel) (pa_cons (pe_lc (own := [("_law_lot", 12)]) (g := gName 12) rfl scLaw.nd (pi_list (pv 6)) (blkOk_by (own := [("_law_lot", 12)]) (N := nLaw) (sc := defScope sLaw) (by decide +kernel)) (fun _ _ _ _ _ => pg_name (i := 12) scLaw.nd rfl (.inl rfl)) (fun _ _ _ _ _ => pts_nil) (fun _ _ _ _ _ => (pe_callB call_lenS (by rfl) T.len PySem.boot_len (pa_cons (pv 12) pa_nil)))) pa_nil)))
      (pss_cons (ps_set (i := 8) scLaw.nd rfl (.inl rfl) (pe_callB (cr_minS rfl (hu2 hr)) (by rfl) T.min (by decide +kernel) (pa_cons (pe_lc (own := [("_law_lot", 12)]) (g := gName 12) rfl scLaw.nd (pi_list (pv 6)) (blkOk_by (own := [("_law_lot", 12)]) (N := nLaw) (sc := defScope sLaw) (by decide +kernel)) (fun _ _ _ _ _ => pg_name (i := 12) scLaw.nd rfl (.inl rfl)) (fun _ _ _ _ _ => pts_one (pt_cmpR op_eq (pe_callB call_lenS (by rfl) T.len PySem.boot_len (pa_cons (pv 12) pa_nil)) (pv 7) (nomark _))) (fun _ _ _ _ _ => (pv 12))) pa_nil)))
      (pss_cons (ps_if (pt_not (pt_val (pe_call T.gA (hr.mono (by decide)) (by rfl) T.mA T.kA T.bA .nil pass0 (pa_cons (pe_lst (pa_cons (pe_call T.gP (hr.mono (by decide)) (by rfl) T.mP T.kP T.bP .nil pass0 (pa_cons (pv 3) pa_nil)) (pa_cons (pe_call T.gL (hr.mono (by decide)) (by rfl) T.mL T.kL T.bL .nil pass0 (pa_cons (pv 3) pa_nil)) pa_nil))) (pa_cons (pe_lst (pa_cons (pe_op op_sub (pe_callB call_len (by rfl) T.len PySem.boot_len (pa_cons (pv 3) pa_nil)) (pv 7)) (pa_cons (pv 8) pa_nil))) pa_nil))))) pss_never pss_nil)
      (pss_cons (ps_setLc (i := 9) (own := [("_law_at", 13)]) (g := gName 13) rfl scLaw.nd rfl rfl (sw_true rfl rfl rfl (by decide +kernel)) (pi_range1 (by rfl) T.range (pa_cons (pe_op op_fdivN (pe_callB call_len (by rfl) T.len PySem.boot_len (pa_cons (pv 3) pa_nil)) pe_int) pa_nil)) (blkOk_by (own := [("_law_at", 13)]) (N := nLaw) (sc := defScope sLaw) (by decide +kernel)) (fun _ _ _ _ _ => pg_name (i := 13) scLaw.nd rfl (.inl rfl)) (fun _ _ _ _ _ => pts_one (pt_cmpR op_ne (pe_item_str (pv 3) (pv 13) (fun _ _ => rfl)) (pe_item_str (pv 3) (pe_op op_sub (pe_op op_sub (pe_callB call_lenS (by rfl) T.len PySem.boot_len (pa_cons (pv 3) pa_nil)) pe_int) (pv 13)) (fun _ _ => rfl)) (nomark _))) (fun _ _ _ _ _ => (pv 13)))
      (pss_cons (ps_set (i := 10) scLaw.nd rfl (.inl rfl) (pe_join pe_str (pe_lc (own := [("_law_at", 13)]) (g := gName 13) rfl scLaw.nd (pi_range1 (by rfl) T.range (pa_cons (pe_callB call_len (by rfl) T.len PySem.boot_len (pa_cons (pv 3) pa_nil)) pa_nil)) (blkOk_by (own := [("_law_at", 13)]) (N := nLaw) (sc := defScope sLaw) (by decide +kernel)) (fun _ _ _ _ _ => pg_name (i := 13) scLaw.nd rfl (.inl rfl)) (fun _ _ _ _ _ => pts_nil) (fun _ _ _ _ _ => (pe_callB (call_min2S rfl (hu2 hr)) (by rfl) T.min (by decide +kernel) (pa_cons (pe_item_str (pv 3) (pv 13) (fun _ _ => rfl)) (pa_cons (pe_item_str (pv 3) (pe_op op_sub (pe_op op_sub (pe_callB call_lenS (by rfl) T.len PySem.boot_len (pa_cons (pv 3) pa_nil)) pe_int) (pv 13)) (fun _ _ => rfl)) pa_nil)))))))
      (pss_cons (ps_if (pt_not (pt_val (pe_call T.gA (hr.mono (by decide)) (by rfl) T.mA T.kA T.bA .nil pass0 (pa_cons (pe_lst (pa_cons (pe_call T.gC (hr.mono (by decide)) (by rfl) T.mC T.kC T.bC .nil pass0 (pa_cons (pv 3) pa_nil)) (pa_cons (pe_call T.gM (hr.mono (by decide)) (by rfl) T.mM T.kM T.bM .nil pass0 (pa_cons (pv 3) pa_nil)) pa_nil))) (pa_cons (pe_lst (pa_cons (pe_callB call_len_seq (by rfl) T.len PySem.boot_len (pa_cons (pv 9) pa_nil)) (pa_cons (pv 10) pa_nil))) pa_nil))))) pss_never pss_nil)
      (pss_cons (ps_set (i := 11) scLaw.nd rfl (.inl rfl) (pe_slice sl_str (pe_call T.gF (hr.mono (by decide)) (by rfl) T.mF T.kF T.bF .nil pass0 (pa_cons (pe_call T.gN (hr.mono (by decide)) (by rfl) T.mN T.kN T.bN .nil pass0 (pa_cons (pv 1) (pa_cons pe_int (pa_cons (pv 2) pa_nil)))) pa_nil)) po_none (po_some pe_int)))
      (pss_one (ps_ret (pe_and (pe_cmpR op_le (pe_call T.gP (hr.mono (by decide)) (by rfl) T.mP T.kP T.bP .nil pass0 (pa_cons (pe_op op_add_str (pv 11) pe_str) pa_nil)) (pe_op op_add pe_int (pe_call T.gP (hr.mono (by decide)) (by rfl) T.mP T.kP T.bP .nil pass0 (pa_cons (pv 11) pa_nil))) (nomark _)) (pe_one (pe_cmpR op_eq (pe_call T.gC (hr.mono (by decide)) (by rfl) T.mC T.kC T.bC .nil pass0 (pa_cons (pe_op op_add_str (pv 3) (pe_revS (pv 3))) pa_nil)) pe_int (nomark _))))))))))))))))))), ?_⟩
    have z8 : ∀ n : Nat, n ≤ 8 → n ≤ sizeLine := fun n h => small (by omega)
    -- row, many, word
    refine ⟨_, rfl, by show 4 ≤ sizeLine; decide, fun a na => ?_⟩
    have s1 := same_new na (.lst [.ref sc, .int 0, .int 4553, .int 0])
    have row1 : RowAt (upd H a (.lst [.ref sc, .int 0, .int 4553, .int 0])) a sc := ⟨0, 4553, 0, Int.le_refl 0, upd_same⟩
    have hs1 := s1.seq hs
    refine ⟨_, rfl, a, sc, ns, 3, rfl, by decide, by decide, row1, hs1, fun H2 k kp2 row2 k0 k1 => ⟨_, _, rfl, rfl, ?_⟩⟩
    have hs2 := seq_keep hs1 row1 kp2
    refine ⟨_, rfl, _, rfl, a, sc, ns, 8, 1 + k, rfl, by omega, by omega, by decide, by decide, row2, hs2, fun H3 l kp3 row3 letl l8 => ?_⟩
    have hs3 := seq_keep hs2 row2 kp3
    have len8 : l.length ≤ 8 := by omega
    have sl : (S l).length = l.length := S_len l
    have lenOk : (S l).length ≤ sizeLine := small (by omega)
    -- lots
    refine ⟨by show 1 ≤ sizeLine; decide, fun L0 nL0 => ?_⟩
    have sL0 := same_new nL0 (.lst [.str ""])
    refine ⟨_, rfl, S l, rfl, for_it walk_str (fun i σ H' => ∃ (Ll : Addr) (zs : List Str) (y5 : Option V), σ = [some (.ref sc), some (.ref a), some (.int (1 + k)), some (.str (S l)), some (.ref Ll), y5, none, none, none, none, none, none, none, none] ∧
        Same H3 H' ∧ H' Ll = some (.lst (zs.map V.str)) ∧ Lots (l.take i) zs ∧ zs.length ≤ 2 ^ i) ⟨L0, [""], none, rfl, sL0, upd_same, ?_, Nat.le_refl _⟩ (fun _ _ _ _ _ => trivial) (fun i v σ H4 H5 hi p y => ?_) (fun σ H4 p => ?_)⟩
    · intro y
      constructor
      · intro h
        rw [List.mem_singleton.mp h]
        exact List.nil_sublist _
      · intro h
        rw [List.take_zero] at h
        have e : tz y = [] := List.sublist_nil.mp h
        exact List.mem_singleton.mpr (tz_inj (e.trans rfl))
    · obtain ⟨Ll, zs, y5, rfl, sm, hL, lots, few⟩ := p
      obtain ⟨rfl, c, hc, rfl⟩ := y
      rw [S_at] at hc
      have hi' : i < l.length := by
        have : (S l).cps.size = l.length := sl
        omega
      have p8 : 2 ^ i ≤ 2 ^ 7 := Nat.pow_le_pow_right (by decide) (by omega)
      have zlen : ∀ z, z ∈ zs → z.length ≤ 8 := fun z hz => by
        have := ((lots z).1 hz).length_le
        rw [tz_len]
        rw [List.length_take] at this
        omega
      refine ⟨_, rfl, _, rfl, Ll, rfl, ⟨_, SqL.of hL⟩, fun D nD => ?_⟩
      refine lc_list (K := K) (a := Ll) (xs := zs.map V.str) (fun j H' => Same H5 H' ∧ H' D = some (.lst (((zs.take j).map fun z => z ++ sg c).map V.str)))
        ⟨same_new nD _, upd_same⟩ (fun j H' _ p => SqL.of (p.1 _ _ hL)) (fun j x H' hx p => ?_) (fun H' p => ?_)
      · obtain ⟨sj, hD⟩ := p
        rw [List.getElem?_map] at hx
        cases hz : zs[j]? with
        | none => rw [hz] at hx; cases hx
        | some z =>
          rw [hz] at hx
          obtain rfl : V.str z = x := Option.some.inj hx
          refine ⟨rfl, _, rfl, _, rfl, z, sg c, rfl, rfl, ?_, _, hD, ?_, same_put nD sj, ?_⟩
          · have := zlen z (List.mem_of_getElem? hz)
            show z.length + 1 ≤ _
            exact small (by omega)
          · rw [List.length_map, List.length_map, List.length_take]
            exact smallL (by omega)
          · rw [upd_same, List.take_add_one, hz, List.map_append, List.map_append]
            rfl
      · obtain ⟨sj, hD⟩ := p
        rw [List.length_map, List.take_length] at hD
        refine ⟨Ll, D, _, _, rfl, rfl, sj _ _ hL, hD, ?_, fun p1 np1 => ?_⟩
        · rw [List.length_map, List.length_map, List.length_map]
          exact small (by omega)
        · refine ⟨p1, zs ++ zs.map fun z => z ++ sg c, rfl, SqL.of (by rw [upd_same, List.map_append]), ?_, fun p2 zs2 len2 mem2 np2 => ?_⟩
          · rw [List.length_append, List.length_map]
            show _ < 4096
            omega
          · rw [List.length_append, List.length_map] at len2
            refine ⟨p2, zs2, rfl, upd_same, small (by omega), fun p3 ys perm np3 => ?_⟩
            refine ⟨p3, ys, some (.str (sg c)), rfl, ?_, upd_same, fun y => ?_, ?_⟩
            · exact sm.trans (sj.trans ((same_new np1 _).trans ((same_new np2 _).trans (same_new np3 _))))
            · rw [perm.mem_iff, mem2, List.mem_append, List.mem_map, lots y, List.take_add_one, hc]
              show _ ↔ (tz y).Sublist (l.take i ++ [c])
              rw [sub_more]
              constructor
              · rintro (h | ⟨z, hz, e⟩)
                · exact .inl h
                · exact .inr ⟨z, (lots z).1 hz, e.symm⟩
              · rintro (h | ⟨z, hz, e⟩)
                · exact .inl h
                · exact .inr ⟨z, (lots z).2 hz, e.symm⟩
            · rw [perm.length_eq, Nat.pow_succ]
              omega
    · obtain ⟨Ll, zs, y5, rfl, sm, hL, lots, few⟩ := p
      have eT : l.take (S l).cps.size = l := by
        have : (S l).cps.size = l.length := sl
        rw [this, List.take_length]
      rw [eT] at lots
      have few8 : zs.length ≤ 256 := by
        have h1 : (S l).cps.size = l.length := sl
        have : 2 ^ (S l).cps.size ≤ 2 ^ 8 := Nat.pow_le_pow_right (by decide) (by omega)
        omega
      have zlen : ∀ z, z ∈ zs → z.length ≤ 8 := fun z hz => by
        have := ((lots z).1 hz).length_le
        rw [tz_len]
        omega
      -- mirrors
      refine ⟨_, rfl, Ll, rfl, ⟨_, SqL.of hL⟩, fun D nD => ?_⟩
      refine lc_list (K := K) (a := Ll) (xs := zs.map V.str) (fun j H' => Same H4 H' ∧ H' D = some (.lst (((zs.take j).filter isPal).map V.str)))
        ⟨same_new nD _, upd_same⟩ (fun j H' _ p => SqL.of (p.1 _ _ hL)) (fun j x H' hx p => ?_) (fun H5 p => ?_)
      · obtain ⟨sj, hD⟩ := p
        rw [List.getElem?_map] at hx
        cases hz : zs[j]? with
        | none => rw [hz] at hx; cases hx
        | some z =>
          rw [hz] at hx
          obtain rfl : V.str z = x := Option.some.inj hx
          have nx : (zs.take (j + 1)).filter isPal = (zs.take j).filter isPal ++ if isPal z = true then [z] else [] := by
            rw [List.take_add_one, hz, List.filter_append]
            show _ ++ List.filter isPal [z] = _
            rw [List.filter_cons]
            rfl
          refine ⟨rfl, _, rfl, _, rfl, z, rfl, z8 _ (zlen z (List.mem_of_getElem? hz)), rfl, _, rfl, ite2 (fun t => ⟨_, rfl, _, hD, ?_, same_put nD sj, ?_⟩) (fun t => ⟨sj, ?_⟩)⟩
          · rw [List.length_map]
            have := List.length_filter_le isPal (zs.take j)
            rw [List.length_take] at this
            exact smallL (by omega)
          · rw [upd_same, nx, if_pos t, List.map_append]
            rfl
          · rw [hD, nx, if_neg t, List.append_nil]
      · obtain ⟨sj, hD⟩ := p
        rw [List.length_map, List.take_length] at hD
        have s5 := sm.trans sj
        clear hL
        have mlen : (zs.filter isPal).length ≤ 256 := Nat.le_trans (List.length_filter_le _ _) few8
        have mz : ∀ z, z ∈ zs.filter isPal → z.length ≤ 8 := fun z hz => zlen z (List.mem_filter.mp hz).1
        have mostIs := fun {m : Int} hm top => most_is (m := m) lots hm top
        have dueIs := due_is lots
        have inn := least_in lots
        generalize zs.filter isPal = ms at hD mlen mz mostIs dueIs inn
        -- most
        refine ⟨_, rfl, D, rfl, ⟨_, SqL.of hD⟩, fun D2 nD2 => ?_⟩
        refine lc_list (K := K) (a := D) (xs := ms.map V.str) (fun j H' => Same H5 H' ∧ H' D2 = some (.lst (((ms.take j).map fun z => ((z.length : Nat) : Int)).map V.int)))
          ⟨same_new nD2 _, upd_same⟩ (fun j H' _ p => SqL.of (p.1 _ _ hD)) (fun j x H' hx p => ?_) (fun H6 p => ?_)
        · obtain ⟨sj, hD2⟩ := p
          rw [List.getElem?_map] at hx
          cases hz : ms[j]? with
          | none => rw [hz] at hx; cases hx
          | some z =>
            rw [hz] at hx
            obtain rfl : V.str z = x := Option.some.inj hx
            refine ⟨rfl, _, rfl, z, rfl, z8 _ (mz z (List.mem_of_getElem? hz)), _, hD2, ?_, same_put nD2 sj, ?_⟩
            · rw [List.length_map, List.length_map, List.length_take]
              exact smallL (by omega)
            · rw [upd_same, List.take_add_one, hz, List.map_append, List.map_append]
              rfl
        · obtain ⟨sj, hD2⟩ := p
          rw [List.length_map, List.take_length] at hD2
          have s6 := s5.trans sj
          have hD6 := sj _ _ hD
          refine ⟨D2, _, rfl, SqL.of hD2, ?_, fun m hm top => ?_⟩
          · rw [List.length_map]
            cases ms with
            | nil => cases inn
            | cons _ _ => exact Nat.succ_pos _
          · obtain rfl := mostIs hm top
            -- due
            refine ⟨_, rfl, D, rfl, ⟨_, SqL.of hD6⟩, fun D3 nD3 => ?_⟩
            refine lc_list (K := K) (a := D) (xs := ms.map V.str) (fun j H' => Same H6 H' ∧ H' D3 = some (.lst (((ms.take j).filter (isLen (lps l l.length 0 : Nat))).map V.str)))
              ⟨same_new nD3 _, upd_same⟩ (fun j H' _ p => SqL.of (p.1 _ _ hD6)) (fun j x H' hx p => ?_) (fun H7 p => ?_)
            · obtain ⟨sj, hD3⟩ := p
              rw [List.getElem?_map] at hx
              cases hz : ms[j]? with
              | none => rw [hz] at hx; cases hx
              | some z =>
                rw [hz] at hx
                obtain rfl : V.str z = x := Option.some.inj hx
                have nx : (ms.take (j + 1)).filter (isLen (lps l l.length 0 : Nat)) = (ms.take j).filter (isLen (lps l l.length 0 : Nat)) ++ if isLen (lps l l.length 0 : Nat) z = true then [z] else [] := by
                  rw [List.take_add_one, hz, List.filter_append]
                  show _ ++ List.filter (isLen (lps l l.length 0 : Nat)) [z] = _
                  rw [List.filter_cons]
                  rfl
                refine ⟨rfl, _, rfl, z, rfl, z8 _ (mz z (List.mem_of_getElem? hz)), _, rfl, rfl, _, rfl, ite2 (fun t => ⟨_, rfl, _, hD3, ?_, same_put nD3 sj, ?_⟩) (fun t => ⟨sj, ?_⟩)⟩
                · rw [List.length_map]
                  have := List.length_filter_le (isLen (lps l l.length 0 : Nat)) (ms.take j)
                  rw [List.length_take] at this
                  exact smallL (by omega)
                · rw [upd_same, nx, if_pos t, List.map_append]
                  rfl
                · rw [hD3, nx, if_neg t, List.append_nil]
            · obtain ⟨sj, hD3⟩ := p
              rw [List.length_map, List.take_length] at hD3
              have s7 := s6.trans sj
              refine ⟨D3, _, rfl, SqL.of hD3, dueIs.1, fun y hy low => ?_⟩
              obtain rfl := dueIs.2 y hy low
              have row7 : RowAt H7 a sc := by
                obtain ⟨i, x, y, i0, e⟩ := row3
                exact ⟨i, x, y, i0, s7 _ _ e⟩
              have hs7 := s7.seq hs3
              clear hD hD2 hD3 hD6 sj
              -- alike
              refine ⟨_, rfl, l, rfl, letl, by omega, fun H8 s8 => ⟨_, rfl, l, rfl, letl, len8, fun H9 s9 => ⟨by show 2 ≤ sizeLine; decide, fun p1 np1 => ?_⟩⟩⟩
              refine ⟨_, rfl, .str (S l), l.length, rfl, ⟨lenOk, sl.symm⟩, _, rfl, _, _, rfl, rfl, _, rfl, by show 2 ≤ sizeLine; decide, fun p2 np2 => ?_⟩
              have sp := same_new np2 (.lst [.int ((l.length : Int) - (lps l l.length 0 : Nat)), .str (S (least l l.length 0))])
              refine ⟨p1, p2, (l.length : Int) - (lps l l.length 0 : Nat), S (least l l.length 0), rfl, sp _ _ upd_same, upd_same, fun H10 s10 => ⟨true, rfl, iteF ?_⟩⟩
              have s11 : Same H3 H10 := s7.trans (s8.trans (s9.trans ((same_new np1 _).trans (sp.trans s10))))
              clear sp np1 np2 s8 s9 s10 s7 row7 hs7
              -- unlike
              refine ⟨_, rfl, .str (S l), l.length, rfl, ⟨lenOk, sl.symm⟩, _, _, rfl, rfl, ⟨by decide, by decide⟩, ?_⟩
              have e2 : ((l.length : Int)).fdiv 2 = ((l.length / 2 : Nat) : Int) := by
                rw [Int.fdiv_eq_ediv_of_nonneg _ (show (0 : Int) ≤ 2 by decide)]
                omega
              refine ⟨((l.length / 2 : Nat) : Int), congrArg (fun z => [V.int z]) e2, by omega, by omega, fun D nD => ?_⟩
              have itm : ∀ j : Nat, j < l.length → (S l).cps[(0 + (j : Int)).toNat]? = some (l.getD j 0) := fun j hj => by
                rw [show (0 + (j : Int)).toNat = j by omega]
                exact sign_at hj
              have itr : ∀ j : Nat, j < l.length → (S l).cps[((((S l).length : Nat) : Int) - 1 - (0 + (j : Int))).toNat]? = some (l.getD (l.length - 1 - j) 0) := fun j hj => by
                rw [show ((((S l).length : Nat) : Int) - 1 - (0 + (j : Int))).toNat = l.length - 1 - j by omega]
                exact sign_at (by omega)
              refine lc_range (lo := 0) (n := l.length / 2) (fun j H' => Same H10 H' ∧ H' D = some (.lst (((List.range j).filter (unl l)).map fun x => V.int (0 + (x : Nat)))))
                ⟨same_new nD _, upd_same⟩ (fun j H' hj p => ?_) (fun H12 p => ?_)
              · obtain ⟨sj, hD⟩ := p
                have hj' : j < l.length := by omega
                have nx : (List.range (j + 1)).filter (unl l) = (List.range j).filter (unl l) ++ if unl l j = true then [j] else [] := by
                  rw [List.range_succ, List.filter_append]
                  show _ ++ List.filter (unl l) [j] = _
                  rw [List.filter_cons]
                  rfl
                refine ⟨rfl, _, rfl, _, rfl, S l, _, _, rfl, rfl, by omega, by omega, by omega, itm j hj', _, rfl, _, rfl, S l, rfl, lenOk, _, _, rfl, rfl, _, rfl, _, _, rfl, rfl, S l, _, _, rfl, rfl, by omega, by omega, by omega, itr j hj', rfl, _, rfl, ?_⟩
                refine ite2 (fun t => ⟨_, rfl, _, hD, ?_, same_put nD sj, ?_⟩) (fun t => ⟨sj, ?_⟩)
                · rw [List.length_map]
                  have := List.length_filter_le (unl l) (List.range j)
                  rw [List.length_range] at this
                  exact smallL (by omega)
                · have t' : unl l j = true := (ne_dec _ _).symm.trans t
                  rw [upd_same, nx, if_pos t', List.map_append]
                  rfl
                · have t' : ¬ unl l j = true := fun z => t ((ne_dec _ _).trans z)
                  rw [hD, nx, if_neg t', List.append_nil]
              · obtain ⟨sj, hD⟩ := p
                have s12 := s11.trans sj
                -- told
                refine ⟨⟨_, rfl⟩, _, rfl, .str (S l), l.length, rfl, ⟨lenOk, sl.symm⟩, l.length, rfl, by omega, by omega, fun D4 nD4 => ?_⟩
                refine lc_range (lo := 0) (n := l.length) (fun j H' => Same H12 H' ∧ H' D4 = some (.lst ((((lows l l.reverse).take j).map sg).map V.str)))
                  ⟨same_new nD4 _, upd_same⟩ (fun j H' hj p => ?_) (fun H13 p => ?_)
                · obtain ⟨sk, hD4⟩ := p
                  refine ⟨rfl, _, rfl, _, rfl, S l, _, _, rfl, rfl, by omega, by omega, by omega, itm j hj, _, rfl, _, rfl, S l, rfl, lenOk, _, _, rfl, rfl, _, rfl, _, _, rfl, rfl, S l, _, _, rfl, rfl, by omega, by omega, by omega, itr j hj, sg (l.getD j 0), sg (l.getD (l.length - 1 - j) 0), rfl, _, hD4, ?_, same_put nD4 sk, ?_⟩
                  · rw [List.length_map, List.length_map, List.length_take]
                    exact smallL (by omega)
                  · rw [upd_same, List.take_add_one, lows_at hj, minS2_sg, List.map_append, List.map_append]
                    rfl
                · obtain ⟨sk, hD4⟩ := p
                  have s13 := s12.trans sk
                  have hD13 := sk _ _ hD
                  rw [List.take_of_length_le (by rw [lows_len]; exact Nat.le_refl _)] at hD4
                  refine ⟨"", D4, _, rfl, rfl, .inl (SqL.of hD4), ?_, ?_⟩
                  · rw [len_signs, lows_len]
                    show l.length + _ * 0 ≤ _
                    omega
                  rw [join_signs]
                  -- alike
                  have cnt : (chg l l.reverse : Int).fdiv 2 = ((((List.range (l.length / 2)).filter (unl l)).map fun x => V.int (0 + (x : Nat))).length : Nat) := by
                    rw [chg_half, fdiv_half, List.length_map, List.countP_eq_length_filter]
                  refine ⟨_, rfl, l, rfl, letl, by omega, fun H14 s14 => ⟨_, rfl, l, rfl, letl, by omega, fun H15 s15 => ⟨by show 2 ≤ sizeLine; decide, fun p1 np1 => ?_⟩⟩⟩
                  have sq1 := same_new np1 (.lst [.int ((chg l l.reverse : Int).fdiv 2), .str (S (lows l l.reverse))])
                  refine ⟨_, rfl, D, _, rfl, .inl (SqL.of (sq1 _ _ (s15 _ _ (s14 _ _ hD13)))), _, rfl, by show 2 ≤ sizeLine; decide, fun p2 np2 => ?_⟩
                  have sq2 := fun o => same_new np2 o
                  refine ⟨p1, p2, (chg l l.reverse : Int).fdiv 2, S (lows l l.reverse), rfl, sq2 _ _ _ upd_same, ?_, fun H16 s16 => ⟨true, rfl, iteF ?_⟩⟩
                  · rw [upd_same, cnt]
                  have s17 : Same H3 H16 := s13.trans (s14.trans (s15.trans (sq1.trans ((sq2 _).trans s16))))
                  have row17 : RowAt H16 a sc := by
                    obtain ⟨i, x, y, i0, e⟩ := row3
                    exact ⟨i, x, y, i0, s17 _ _ e⟩
                  have hs17 := s17.seq hs3
                  -- whole
                  refine ⟨_, rfl, _, rfl, a, sc, ns, 6, 1 + k, rfl, by omega, by omega, by decide, by decide, row17, hs17, fun H18 t0 _ _ let0 len0 => ⟨t0, rfl, let0, by omega, fun H19 t s19 lett tlen => ?_⟩⟩
                  have t6 : 2 ^ t0.length ≤ 2 ^ 6 := Nat.pow_le_pow_right (by decide) (by omega)
                  refine ⟨60, rfl, S t, rfl, by rw [S_len]; exact small (by omega), ?_⟩
                  obtain ⟨u, eu, lu, mu⟩ := cut_part t none (some 60)
                  rw [eu]
                  have letu : Let u := fun c hc => lett c (mu c hc)
                  -- return
                  refine ⟨_, rfl, S u, PySem.Str.ofString "a", rfl, rfl, by rw [S_len, sign_a, S_len]; exact small (by simp; omega), u ++ [97], ?_, ?_, by simp; omega, fun Ha sa => ?_⟩
                  · rw [sign_a, S_app]
                    rfl
                  · intro c hc
                    rcases List.mem_append.mp hc with h0 | h0
                    · exact letu c h0
                    · exact .inl (List.mem_singleton.mp h0)
                  refine ⟨_, rfl, u, rfl, letu, by omega, fun Hb sb => ⟨_, _, rfl, rfl, _, _, rfl, rfl, true, ?_, ?_⟩⟩
                  · have := lps_more u 97
                    have e : (((u ++ [97]).length : Nat) : Int) = (u.length : Int) + 1 := by simp
                    exact congrArg V.bl (decide_eq_true (by omega))
                  refine ⟨_, rfl, _, rfl, S l, rfl, lenOk, S l, revS (S l), rfl, rfl, ?_, l ++ l.reverse, ?_, ?_, by simp; omega, fun Hc sc' => ?_⟩
                  · rw [revS_S, S_len, S_len]
                    exact small (by simp; omega)
                  · rw [revS_S, S_app]
                    rfl
                  · intro c hc
                    rcases List.mem_append.mp hc with h0 | h0
                    · exact letl c h0
                    · exact letl c (List.mem_reverse.mp h0)
                  · refine ⟨rfl, ?_⟩
                    rw [chg_twice]
                    exact q Hc

end
end Pm
namespace Pm
open PySem PySem.Spec PyProof.Rows L2
theorem all_mk {l : PySem.W.OpenLaw} {w : World} {K : PySem.W.Frag} {h : Heap} {mg : Str → Option Value} {fa f1 f2 f3 f4 f5 f6 f7 f8 f9 f10 f11 f12 f13 f14 f15 f16 : Addr} (X : K.In h) (G : h.Ns mainGlobals mg) (hfa : mg "law" = some (.ref fa))
    {od1 an1 od2 an2 od3 an3 od4 an4 od5 an5 od6 an6 od7 an7 od8 an8 od9 an9 od10 an10 od11 an11 od12 an12 od13 an13 od14 an14 od15 an15 od16 an16 : Option Addr} {sl1 sl2 sl3 sl4 sl5 sl6 sl7 sl8 sl9 sl10 sl11 sl12 sl13 sl14 sl15 sl16 : Array (Option Value)} {oc1 kV1 dc1 pm1 cd1 ct1 oc2 kV2 dc2 pm2 cd2 ct2 oc3 kV3 dc3 pm3 cd3 ct3 oc4 kV4 dc4 pm4 cd4 ct4 oc5 kV5 dc5 pm5 cd5 ct5 oc6 kV6 dc6 pm6 cd6 ct6 oc7 kV7 dc7 pm7 cd7 ct7 oc8 kV8 dc8 pm8 cd8 ct8 oc9 kV9 dc9 pm9 cd9 ct9 oc10 kV10 dc10 pm10 cd10 ct10 oc11 kV11 dc11 pm11 cd11 ct11 oc12 kV12 dc12 pm12 cd12 ct12 oc13 kV13 dc13 pm13 cd13 ct13 oc14 kV14 dc14 pm14 cd14 ct14 oc15 kV15 dc15 pm15 cd15 ct15 oc16 kV16 dc16 pm16 cd16 ct16 : Value} {tk1 tk2 tk3 : Tok}
    (a1 : PySem.W.nsIn K mainGlobals "first_wrong" = some (some (.ref f1))) (l1 : K.lookup f1 = some ⟨oc1, od1, .func (PySem.W.fnOf "first_wrong" "first_wrong" (defArgs sFirst) (defBody sFirst) (defScope sFirst) .none kV1 dc1 pm1 an1 cd1 ct1), sl1⟩) (c1 : PySem.W.codeIn K cd1 "first_wrong" = true) (k1 : PySem.W.keepIn K (.ref f1) = true)
    (a2 : PySem.W.nsIn K mainGlobals "need_word" = some (some (.ref f2))) (l2 : K.lookup f2 = some ⟨oc2, od2, .func (PySem.W.fnOf "need_word" "need_word" (defArgs sNeedWord) (defBody sNeedWord) (defScope sNeedWord) .none kV2 dc2 pm2 an2 cd2 ct2), sl2⟩) (c2 : PySem.W.codeIn K cd2 "need_word" = true) (k2 : PySem.W.keepIn K (.ref f2) = true)
    (a3 : PySem.W.nsIn K mainGlobals "need_mend" = some (some (.ref f3))) (l3 : K.lookup f3 = some ⟨oc3, od3, .func (PySem.W.fnOf "need_mend" "need_mend" (defArgs sNeedMend) (defBody sNeedMend) (defScope sNeedMend) .none kV3 dc3 pm3 an3 cd3 ct3), sl3⟩) (c3 : PySem.W.codeIn K cd3 "need_mend" = true) (k3 : PySem.W.keepIn K (.ref f3) = true)
    (a4 : PySem.W.nsIn K mainGlobals "inner_of" = some (some (.ref f4))) (l4 : K.lookup f4 = some ⟨oc4, od4, .func (PySem.W.fnOf "inner_of" "inner_of" (defArgs sInner) (defBody sInner) (defScope sInner) .none kV4 dc4 pm4 an4 cd4 ct4), sl4⟩) (c4 : PySem.W.codeIn K cd4 "inner_of" = true) (k4 : PySem.W.keepIn K (.ref f4) = true)
    (a5 : PySem.W.nsIn K mainGlobals "fewest_put_in" = some (some (.ref f5))) (l5 : K.lookup f5 = some ⟨oc5, od5, .func (PySem.W.fnOf "fewest_put_in" "fewest_put_in" (defArgs sPutIn) (defBody sPutIn) (defScope sPutIn) .none kV5 dc5 pm5 an5 cd5 ct5), sl5⟩) (c5 : PySem.W.codeIn K cd5 "fewest_put_in" = true) (k5 : PySem.W.keepIn K (.ref f5) = true)
    (a6 : PySem.W.nsIn K mainGlobals "left_mirror" = some (some (.ref f6))) (l6 : K.lookup f6 = some ⟨oc6, od6, .func (PySem.W.fnOf "left_mirror" "left_mirror" (defArgs sLeftM) (defBody sLeftM) (defScope sLeftM) .none kV6 dc6 pm6 an6 cd6 ct6), sl6⟩) (c6 : PySem.W.codeIn K cd6 "left_mirror" = true) (k6 : PySem.W.keepIn K (.ref f6) = true)
    (a7 : PySem.W.nsIn K mainGlobals "least_left" = some (some (.ref f7))) (l7 : K.lookup f7 = some ⟨oc7, od7, .func (PySem.W.fnOf "least_left" "least_left" (defArgs sLeast) (defBody sLeast) (defScope sLeast) .none kV7 dc7 pm7 an7 cd7 ct7), sl7⟩) (c7 : PySem.W.codeIn K cd7 "least_left" = true) (k7 : PySem.W.keepIn K (.ref f7) = true)
    (a8 : PySem.W.nsIn K mainGlobals "fewest_changed" = some (some (.ref f8))) (l8 : K.lookup f8 = some ⟨oc8, od8, .func (PySem.W.fnOf "fewest_changed" "fewest_changed" (defArgs sFewest) (defBody sFewest) (defScope sFewest) .none kV8 dc8 pm8 an8 cd8 ct8), sl8⟩) (c8 : PySem.W.codeIn K cd8 "fewest_changed" = true) (k8 : PySem.W.keepIn K (.ref f8) = true)
    (a9 : PySem.W.nsIn K mainGlobals "changed_mirror" = some (some (.ref f9))) (l9 : K.lookup f9 = some ⟨oc9, od9, .func (PySem.W.fnOf "changed_mirror" "changed_mirror" (defArgs sChanged) (defBody sChanged) (defScope sChanged) .none kV9 dc9 pm9 an9 cd9 ct9), sl9⟩) (c9 : PySem.W.codeIn K cd9 "changed_mirror" = true) (k9 : PySem.W.keepIn K (.ref f9) = true)
    (a10 : PySem.W.nsIn K mainGlobals "_law_taken" = some (some (.ref f10))) (l10 : K.lookup f10 = some ⟨oc10, od10, .func (PySem.W.fnOf "_law_taken" "_law_taken" (defArgs sTaken) (defBody sTaken) (defScope sTaken) .none kV10 dc10 pm10 an10 cd10 ct10), sl10⟩) (c10 : PySem.W.codeIn K cd10 "_law_taken" = true) (k10 : PySem.W.keepIn K (.ref f10) = true)
    (a11 : PySem.W.nsIn K mainGlobals "_law_alike" = some (some (.ref f11))) (l11 : K.lookup f11 = some ⟨oc11, od11, .func (PySem.W.fnOf "_law_alike" "_law_alike" (defArgs sAlike) (defBody sAlike) (defScope sAlike) .none kV11 dc11 pm11 an11 cd11 ct11), sl11⟩) (c11 : PySem.W.codeIn K cd11 "_law_alike" = true) (k11 : PySem.W.keepIn K (.ref f11) = true)
    (a12 : PySem.W.nsIn K mainGlobals "_law_plan" = some (some (.ref f12))) (l12 : K.lookup f12 = some ⟨oc12, od12, .func (PySem.W.fnOf "_law_plan" "_law_plan" (defArgs sPlan) (defBody sPlan) (defScope sPlan) .none kV12 dc12 pm12 an12 cd12 ct12), sl12⟩) (c12 : PySem.W.codeIn K cd12 "_law_plan" = true) (k12 : PySem.W.keepIn K (.ref f12) = true)
    (a13 : PySem.W.nsIn K mainGlobals "_law_word_of" = some (some (.ref f13))) (l13 : K.lookup f13 = some ⟨oc13, od13, .func (PySem.W.fnOf "_law_word_of" "_law_word_of" (defArgs sWordOf) (defBody sWordOf) (defScope sWordOf) .none kV13 dc13 pm13 an13 cd13 ct13), sl13⟩) (c13 : PySem.W.codeIn K cd13 "_law_word_of" = true) (k13 : PySem.W.keepIn K (.ref f13) = true)
    (a14 : PySem.W.nsIn K mainGlobals "_law_sizes" = some (some (.ref f14))) (l14 : K.lookup f14 = some ⟨oc14, od14, .func (PySem.W.fnOf "_law_sizes" "_law_sizes" (defArgs sSizes) (defBody sSizes) (defScope sSizes) .none kV14 dc14 pm14 an14 cd14 ct14), sl14⟩) (c14 : PySem.W.codeIn K cd14 "_law_sizes" = true) (k14 : PySem.W.keepIn K (.ref f14) = true)
    (a15 : PySem.W.nsIn K mainGlobals "_law_fast" = some (some (.ref f15))) (l15 : K.lookup f15 = some ⟨oc15, od15, .func (PySem.W.fnOf "_law_fast" "_law_fast" (defArgs sFast) (defBody sFast) (defScope sFast) .none kV15 dc15 pm15 an15 cd15 ct15), sl15⟩) (c15 : PySem.W.codeIn K cd15 "_law_fast" = true) (k15 : PySem.W.keepIn K (.ref f15) = true)
    (a16 : PySem.W.nsIn K mainGlobals "law" = some (some (.ref f16))) (l16 : K.lookup f16 = some ⟨oc16, od16, .func (PySem.W.fnOf "law" "law" (defArgs sLaw) (defBody sLaw) (defScope sLaw) .none kV16 dc16 pm16 an16 cd16 ct16), sl16⟩) (c16 : PySem.W.codeIn K cd16 "law" = true) (k16 : PySem.W.keepIn K (.ref f16) = true)
    (z_enumerate : PySem.W.nsIn K mainGlobals "enumerate" = some none)
    (z_isinstance : PySem.W.nsIn K mainGlobals "isinstance" = some none)
    (z_str : PySem.W.nsIn K mainGlobals "str" = some none)
    (z_len : PySem.W.nsIn K mainGlobals "len" = some none)
    (z_range : PySem.W.nsIn K mainGlobals "range" = some none)
    (z_max : PySem.W.nsIn K mainGlobals "max" = some none)
    (z_min : PySem.W.nsIn K mainGlobals "min" = some none)
    (z_zip : PySem.W.nsIn K mainGlobals "zip" = some none)
    (z_int : PySem.W.nsIn K mainGlobals "int" = some none)
    (z_tuple : PySem.W.nsIn K mainGlobals "tuple" = some none)
    (z_list : PySem.W.nsIn K mainGlobals "list" = some none)
    (z_bool : PySem.W.nsIn K mainGlobals "bool" = some none)
    (z_sorted : PySem.W.nsIn K mainGlobals "sorted" = some none)
    (z_set : PySem.W.nsIn K mainGlobals "set" = some none)
    (v1 : PySem.W.nsIn K mainGlobals "LETTERS" = some (some (.str "abcde" tk1)))
    (v2 : PySem.W.nsIn K mainGlobals "MOST_WORD" = some (some (.int 2000 tk2)))
    (v3 : PySem.W.nsIn K mainGlobals "MOST_MEND" = some (some (.int 200 tk3)))
    : ∃ fd : FuncData, (∀ (s : Shared) (v : Value), BindsTo s fd ⟨[v], []⟩ [("_law_script", v)]) ∧ ∀ base : Heap, K.In base → base.Ns mainGlobals mg → FnOk l.prog w K mg base CX0 11 fa fd ["_law_script"] (spLaw K) := by
  have e := hfa.symm.trans (PySem.W.mg_of X G a16)
  cases e
  have F1 := fun_mk (st := sFirst) l1 c1 k1
  have m1 := PySem.W.mg_of X G a1
  have b1 := F1.binds (ps := ["value"]) fun _ _ _ _ _ _ us hl => match us, hl with | [_], _ => rfl
  have F2 := fun_mk (st := sNeedWord) l2 c2 k2
  have m2 := PySem.W.mg_of X G a2
  have b2 := F2.binds (ps := ["value"]) fun _ _ _ _ _ _ us hl => match us, hl with | [_], _ => rfl
  have F3 := fun_mk (st := sNeedMend) l3 c3 k3
  have m3 := PySem.W.mg_of X G a3
  have b3 := F3.binds (ps := ["word"]) fun _ _ _ _ _ _ us hl => match us, hl with | [_], _ => rfl
  have F4 := fun_mk (st := sInner) l4 c4 k4
  have m4 := PySem.W.mg_of X G a4
  have b4 := F4.binds (ps := ["word"]) fun _ _ _ _ _ _ us hl => match us, hl with | [_], _ => rfl
  have F5 := fun_mk (st := sPutIn) l5 c5 k5
  have m5 := PySem.W.mg_of X G a5
  have b5 := F5.binds (ps := ["word"]) fun _ _ _ _ _ _ us hl => match us, hl with | [_], _ => rfl
  have F6 := fun_mk (st := sLeftM) l6 c6 k6
  have m6 := PySem.W.mg_of X G a6
  have b6 := F6.binds (ps := ["word"]) fun _ _ _ _ _ _ us hl => match us, hl with | [_], _ => rfl
  have F7 := fun_mk (st := sLeast) l7 c7 k7
  have m7 := PySem.W.mg_of X G a7
  have b7 := F7.binds (ps := ["word", "sizes", "start", "end", "known"]) fun _ _ _ _ _ _ us hl => match us, hl with | [_, _, _, _, _], _ => rfl
  have F8 := fun_mk (st := sFewest) l8 c8 k8
  have m8 := PySem.W.mg_of X G a8
  have b8 := F8.binds (ps := ["word"]) fun _ _ _ _ _ _ us hl => match us, hl with | [_], _ => rfl
  have F9 := fun_mk (st := sChanged) l9 c9 k9
  have m9 := PySem.W.mg_of X G a9
  have b9 := F9.binds (ps := ["word"]) fun _ _ _ _ _ _ us hl => match us, hl with | [_], _ => rfl
  have F10 := fun_mk (st := sTaken) l10 c10 k10
  have m10 := PySem.W.mg_of X G a10
  have b10 := F10.binds (ps := ["_law_row", "_law_many"]) fun _ _ _ _ _ _ us hl => match us, hl with | [_, _], _ => rfl
  have F11 := fun_mk (st := sAlike) l11 c11 k11
  have m11 := PySem.W.mg_of X G a11
  have b11 := F11.binds (ps := ["_law_found", "_law_due"]) fun _ _ _ _ _ _ us hl => match us, hl with | [_, _], _ => rfl
  have F12 := fun_mk (st := sPlan) l12 c12 k12
  have m12 := PySem.W.mg_of X G a12
  have b12 := F12.binds (ps := ["_law_row", "_law_most", "_law_many"]) fun _ _ _ _ _ _ us hl => match us, hl with | [_, _, _], _ => rfl
  have F13 := fun_mk (st := sWordOf) l13 c13 k13
  have m13 := PySem.W.mg_of X G a13
  have b13 := F13.binds (ps := ["_law_row", "_law_most", "_law_many"]) fun _ _ _ _ _ _ us hl => match us, hl with | [_, _, _], _ => rfl
  have F14 := fun_mk (st := sSizes) l14 c14 k14
  have m14 := PySem.W.mg_of X G a14
  have b14 := F14.binds (ps := ["_law_plan_here"]) fun _ _ _ _ _ _ us hl => match us, hl with | [_], _ => rfl
  have F15 := fun_mk (st := sFast) l15 c15 k15
  have m15 := PySem.W.mg_of X G a15
  have b15 := F15.binds (ps := ["_law_plan_here"]) fun _ _ _ _ _ _ us hl => match us, hl with | [_], _ => rfl
  have F16 := fun_mk (st := sLaw) l16 c16 k16
  have m16 := PySem.W.mg_of X G a16
  have n_enumerate := PySem.W.mg_none_of X G z_enumerate
  have n_isinstance := PySem.W.mg_none_of X G z_isinstance
  have n_str := PySem.W.mg_none_of X G z_str
  have n_len := PySem.W.mg_none_of X G z_len
  have n_range := PySem.W.mg_none_of X G z_range
  have n_max := PySem.W.mg_none_of X G z_max
  have n_min := PySem.W.mg_none_of X G z_min
  have n_zip := PySem.W.mg_none_of X G z_zip
  have n_int := PySem.W.mg_none_of X G z_int
  have n_tuple := PySem.W.mg_none_of X G z_tuple
  have n_list := PySem.W.mg_none_of X G z_list
  have n_bool := PySem.W.mg_none_of X G z_bool
  have n_sorted := PySem.W.mg_none_of X G z_sorted
  have n_set := PySem.W.mg_none_of X G z_set
  have cL := PySem.W.mg_of X G v1
  have cW := PySem.W.mg_of X G v2
  have cM := PySem.W.mg_of X G v3
  refine ⟨PySem.W.fnOf "law" "law" (defArgs sLaw) (defBody sLaw) (defScope sLaw) .none kV16 dc16 pm16 an16 cd16 ct16, fun s v => .of_eq rfl, fun base _ _ => ?_⟩
  have N : NoNames mg := ⟨n_isinstance, n_tuple, n_list, n_str, n_int, n_bool, n_len, n_range⟩
  have g1 := ok_first (P := l.prog) (w := w) (base := base) (k := 0) F1 n_enumerate cL
  have g2 := ok_needWord F2 g1 b1 F1.kp m1 n_isinstance n_str n_len cW
  have g3 := ok_needMend F3 g2 b2 F2.kp m2 n_len cM
  have g4 := ok_inner (P := l.prog) (w := w) (base := base) F4 n_len n_range n_max
  have g5 := ok_putIn F5 g3 b3 F3.kp m3 g4 b4 F4.kp m4 n_len
  have g6 := all_least (P := l.prog) (w := w) (base := base) F7 b7 m7 n_min 9
  have g7 := ok_leftM F6 g3 b3 F3.kp m3 g4 b4 F4.kp m4 g6 b7 F7.kp m7 n_len
  have g8 := ok_fewest F8 g2 b2 F2.kp m2 n_len n_zip
  have g9 := ok_changed F9 g2 b2 F2.kp m2 n_min n_zip
  have g10 := ok_taken (P := l.prog) (w := w) (base := base) F10 n_int n_len
  have g11 := ok_alike1 F11 (ok_alike0 (P := l.prog) (w := w) (base := base) F11 N) b11 m11 N
  have g12 := ok_plan F12 g10 b10 F10.kp m10 n_range
  have g13 := ok_wordOf F13 g10 b10 F10.kp m10 n_range
  have g14 := ok_sizes (P := l.prog) (w := w) (base := base) F14 n_len n_range
  have g15 := ok_fast F15 g14 b14 F14.kp m14 n_len n_range
  exact ok_law F16 { gT := g10, gW := g13, gN := g12, gF := g15, gA := g11, gP := g5, gL := g7, gC := g8, gM := g9, mT := m10, mW := m13, mN := m12, mF := m15, mA := m11, mP := m5, mL := m6, mC := m8, mM := m9, kT := F10.kp, kW := F13.kp, kN := F12.kp, kF := F15.kp, kA := F11.kp, kP := F5.kp, kL := F6.kp, kC := F8.kp, kM := F9.kp, bT := b10, bW := b13, bN := b12, bF := b15, bA := b11, bP := b5, bL := b6, bC := b8, bM := b9, sorted := n_sorted, set := n_set, max := n_max, min := n_min, len := n_len, range := n_range }
end Pm
open PySem PySem.W PyProof.Rows
set_option maxHeartbeats 0 in
theorem PySem.Challenge.cw_palbuilds_k53_whole_mends_holds : PySem.Challenge.rw_palbuilds_k53_whole_mends.Holds := by
  w_on; o_law; k_head; (case hw => w_witness2)
  k_fill
  refine L2.walk_of (l := PySem.Challenge.rw_palbuilds_k53_whole_mends) (n := 63) (k := 11) (x := "_law_script") (CX := fun _ => L2.CX0) (sp := fun w => Pm.spLaw _) rfl (by decide) rfl ⟨rfl, by decide, by decide⟩ (fun w h Y => PySem.W.kIn_of Y) ?F (fun _ _ a ns hl _ hS => ⟨a, ns, rfl, hS, hl, fun _ => rfl⟩) (fun _ _ _ _ _ h => h)
  case F =>
    intro w mg fa h KX G hmg
    refine' Pm.all_mk KX G hmg ?a1 ?l1 ?c1 ?k1 ?a2 ?l2 ?c2 ?k2 ?a3 ?l3 ?c3 ?k3 ?a4 ?l4 ?c4 ?k4 ?a5 ?l5 ?c5 ?k5 ?a6 ?l6 ?c6 ?k6 ?a7 ?l7 ?c7 ?k7 ?a8 ?l8 ?c8 ?k8 ?a9 ?l9 ?c9 ?k9 ?a10 ?l10 ?c10 ?k10 ?a11 ?l11 ?c11 ?k11 ?a12 ?l12 ?c12 ?k12 ?a13 ?l13 ?c13 ?k13 ?a14 ?l14 ?c14 ?k14 ?a15 ?l15 ?c15 ?k15 ?a16 ?l16 ?c16 ?k16 ?z_enumerate ?z_isinstance ?z_str ?z_len ?z_range ?z_max ?z_min ?z_zip ?z_int ?z_tuple ?z_list ?z_bool ?z_sorted ?z_set ?v1 ?v2 ?v3
    (case a1 => k_is)
    (case l1 => k_is)
    (case c1 => k_is)
    (case k1 => k_is)
    (case a2 => k_is)
    (case l2 => k_is)
    (case c2 => k_is)
    (case k2 => k_is)
    (case a3 => k_is)
    (case l3 => k_is)
    (case c3 => k_is)
    (case k3 => k_is)
    (case a4 => k_is)
    (case l4 => k_is)
    (case c4 => k_is)
    (case k4 => k_is)
    (case a5 => k_is)
    (case l5 => k_is)
    (case c5 => k_is)
    (case k5 => k_is)
    (case a6 => k_is)
    (case l6 => k_is)
    (case c6 => k_is)
    (case k6 => k_is)
    (case a7 => k_is)
    (case l7 => k_is)
    (case c7 => k_is)
    (case k7 => k_is)
    (case a8 => k_is)
    (case l8 => k_is)
    (case c8 => k_is)
    (case k8 => k_is)
    (case a9 => k_is)
    (case l9 => k_is)
    (case c9 => k_is)
    (case k9 => k_is)
    (case a10 => k_is)
    (case l10 => k_is)
    (case c10 => k_is)
    (case k10 => k_is)
    (case a11 => k_is)
    (case l11 => k_is)
    (case c11 => k_is)
    (case k11 => k_is)
    (case a12 => k_is)
    (case l12 => k_is)
    (case c12 => k_is)
    (case k12 => k_is)
    (case a13 => k_is)
    (case l13 => k_is)
    (case c13 => k_is)
    (case k13 => k_is)
    (case a14 => k_is)
    (case l14 => k_is)
    (case c14 => k_is)
    (case k14 => k_is)
    (case a15 => k_is)
    (case l15 => k_is)
    (case c15 => k_is)
    (case k15 => k_is)
    (case a16 => k_is)
    (case l16 => k_is)
    (case c16 => k_is)
    (case k16 => k_is)
    (case z_enumerate => k_is)
    (case z_isinstance => k_is)
    (case z_str => k_is)
    (case z_len => k_is)
    (case z_range => k_is)
    (case z_max => k_is)
    (case z_min => k_is)
    (case z_zip => k_is)
    (case z_int => k_is)
    (case z_tuple => k_is)
    (case z_list => k_is)
    (case z_bool => k_is)
    (case z_sorted => k_is)
    (case z_set => k_is)
    (case v1 => k_is)
    (case v2 => k_is)
    (case v3 => k_is)
