import PyProof.Rows.All
import Wide.All
import OpenK.AllK
import Wide.FinOn
import HandS.ForMost
import HandS.IsInst
import HandS.DictComp
import HandS.SetFor
import HandS.Conv
import PyProof.SeqIndex
import KE.GoesMore
import HandS.Evl
import PySem.Challenge.RW_echowords_k35_whole_equal_steps
set_option linter.all false
/-! The plain law: squares of dots, equal steps, hits. No program in sight. -/
namespace Ec
/-- the row of the dot at a place -/
def g (sq : List Int) (i : Nat) : Int := sq.getD i 0
theorem g_at {sq : List Int} {i : Nat} (h : i < sq.length) : sq[i]? = some (g sq i) := by
  unfold g
  rw [List.getD_eq_getElem?_getD, List.getElem?_eq_getElem h]
  rfl
theorem g_mem {sq : List Int} {i : Nat} (h : i < sq.length) : g sq i ∈ sq := List.mem_of_getElem? (g_at h)
/-- how far the row rises, s places on -/
def rise (sq : List Int) (s a : Nat) : Int := g sq (a + s) - g sq a
/-- two dots, s places on each, with equal rises -/
def Eq3 (sq : List Int) (s a m : Nat) : Prop := 1 ≤ s ∧ a < m ∧ m + s < sq.length ∧ rise sq s a = rise sq s m
/-- the least of all -/
structure Least (sq : List Int) (s a m : Nat) : Prop where
  is : Eq3 sq s a m
  ns : ∀ s', s' < s → ∀ a' m', ¬ Eq3 sq s' a' m'
  na : ∀ a', a' < a → ∀ m', ¬ Eq3 sq s a' m'
  nm : ∀ m', m' < m → ¬ Eq3 sq s a m'
theorem Least.uniq {sq : List Int} {s a m s' a' m' : Nat} (h : Least sq s a m) (k : Least sq s' a' m') : s = s' ∧ a = a' ∧ m = m' := by
  have e1 : s = s' := by
    rcases Nat.lt_trichotomy s s' with q | q | q
    · exact absurd h.is (k.ns s q a m)
    · exact q
    · exact absurd k.is (h.ns s' q a' m')
  subst e1
  have e2 : a = a' := by
    rcases Nat.lt_trichotomy a a' with q | q | q
    · exact absurd h.is (k.na a q m)
    · exact q
    · exact absurd k.is (h.na a' q m')
  subst e2
  refine ⟨rfl, rfl, ?_⟩
  rcases Nat.lt_trichotomy m m' with q | q | q
  · exact absurd h.is (k.nm m q)
  · exact q
  · exact absurd k.is (h.nm m' q)
/-- no two equal rises anywhere -/
def Costas (sq : List Int) : Prop := ∀ s a m, ¬ Eq3 sq s a m

/-- a permutation of 0 .. n - 1, n from 1 to 30 -/
structure Sq (sq : List Int) : Prop where
  lo : 1 ≤ sq.length
  hi : sq.length ≤ 30
  nd : sq.Nodup
  bd : ∀ e ∈ sq, 0 ≤ e ∧ e < (sq.length : Int)
theorem Sq.at {sq : List Int} (h : Sq sq) {i : Nat} (hi : i < sq.length) : 0 ≤ g sq i ∧ g sq i < (sq.length : Int) := h.bd _ (g_mem hi)
/-- the list 0, 1, .. -/
def upto (n : Nat) : List Int := (List.range n).map fun i : Nat => (i : Int)
theorem upto_len (n : Nat) : (upto n).length = n := by
  unfold upto
  rw [List.length_map, List.length_range]
theorem sq_of_perm {sq : List Int} {n : Nat} (h1 : 1 ≤ n) (h2 : n ≤ 30) (p : sq.Perm (upto n)) : Sq sq ∧ sq.length = n := by
  have hl : sq.length = n := p.length_eq.trans (upto_len n)
  have nd : (upto n).Nodup := by
    unfold upto
    refine List.pairwise_map.mpr (List.Pairwise.imp (fun {a b} (q : a ≠ b) => ?_) List.nodup_range)
    omega
  refine ⟨⟨by omega, by omega, p.nodup_iff.mpr nd, fun e he => ?_⟩, hl⟩
  have hm : e ∈ upto n := p.mem_iff.mp he
  unfold upto at hm
  obtain ⟨i, hi, ei⟩ := List.mem_map.mp hm
  have hi' : i < n := List.mem_range.mp hi
  omega
theorem swap_perm {l : List Int} {i j : Nat} (hi : i < l.length) (hj : j < l.length) : ((l.set i (g l j)).set j (g l i)).Perm l := by
  have e1 : g l i = l[i] := Option.some.inj ((g_at hi).symm.trans (List.getElem?_eq_getElem hi))
  have e2 : g l j = l[j] := Option.some.inj ((g_at hj).symm.trans (List.getElem?_eq_getElem hj))
  rw [e1, e2]
  exact List.set_set_perm hi hj

/-! ### counting -/
/-- how many i below k there are with p -/
def cnt (p : Nat → Bool) (k : Nat) : Nat := ((List.range k).filter p).length
theorem filter_succ (p : Nat → Bool) (k : Nat) : (List.range (k + 1)).filter p = if p k = true then (List.range k).filter p ++ [k] else (List.range k).filter p := by
  rw [List.range_succ, List.filter_append, List.filter_cons, List.filter_nil]
  by_cases h : p k = true
  · rw [if_pos h, if_pos h]
  · rw [if_neg h, if_neg h, List.append_nil]
theorem cnt_zero (p : Nat → Bool) : cnt p 0 = 0 := rfl
theorem cnt_succ (p : Nat → Bool) (k : Nat) : cnt p (k + 1) = cnt p k + if p k = true then 1 else 0 := by
  unfold cnt
  rw [filter_succ]
  by_cases h : p k = true
  · rw [if_pos h, if_pos h, List.length_append]
    rfl
  · rw [if_neg h, if_neg h]
    rfl
theorem cnt_le (p : Nat → Bool) : ∀ k, cnt p k ≤ k
  | 0 => Nat.le_refl 0
  | k + 1 => by
    have ih := cnt_le p k
    rw [cnt_succ]
    by_cases h : p k = true
    · rw [if_pos h]
      omega
    · rw [if_neg h]
      omega
theorem cnt_congr {p q : Nat → Bool} : ∀ {k : Nat}, (∀ i, i < k → p i = q i) → cnt p k = cnt q k
  | 0, _ => rfl
  | k + 1, h => by
    rw [cnt_succ, cnt_succ, cnt_congr (k := k) fun i hi => h i (by omega), h k (by omega)]
theorem cnt_pos {p : Nat → Bool} : ∀ {k : Nat}, 1 ≤ cnt p k → ∃ a, a < k ∧ p a = true
  | 0, h => absurd h (by rw [cnt_zero]; omega)
  | k + 1, h => by
    rw [cnt_succ] at h
    by_cases hk : p k = true
    · exact ⟨k, by omega, hk⟩
    · rw [if_neg hk] at h
      obtain ⟨a, h1, h2⟩ := cnt_pos (p := p) (k := k) (by omega)
      exact ⟨a, by omega, h2⟩
theorem cnt_ge1 {p : Nat → Bool} {a : Nat} (ha : p a = true) : ∀ {k : Nat}, a < k → 1 ≤ cnt p k
  | 0, h => absurd h (by omega)
  | k + 1, h => by
    rw [cnt_succ]
    by_cases e : a = k
    · subst e
      rw [if_pos ha]
      omega
    · have := cnt_ge1 ha (k := k) (by omega)
      omega
theorem cnt_two {p : Nat → Bool} : ∀ {k : Nat}, 2 ≤ cnt p k → ∃ a m, a < m ∧ m < k ∧ p a = true ∧ p m = true
  | 0, h => absurd h (by rw [cnt_zero]; omega)
  | k + 1, h => by
    rw [cnt_succ] at h
    by_cases hk : p k = true
    · rw [if_pos hk] at h
      obtain ⟨a, h1, h2⟩ := cnt_pos (p := p) (k := k) (by omega)
      exact ⟨a, k, h1, by omega, h2, hk⟩
    · rw [if_neg hk] at h
      obtain ⟨a, m, h1, h2, h3⟩ := cnt_two (p := p) (k := k) (by omega)
      exact ⟨a, m, h1, by omega, h3⟩
theorem cnt_ge2 {p : Nat → Bool} {a m : Nat} (h : a < m) (ha : p a = true) (hm : p m = true) : ∀ {k : Nat}, m < k → 2 ≤ cnt p k
  | 0, q => absurd q (by omega)
  | k + 1, q => by
    rw [cnt_succ]
    by_cases e : m = k
    · subst e
      rw [if_pos hm]
      have := cnt_ge1 ha h
      omega
    · have := cnt_ge2 h ha hm (k := k) (by omega)
      omega

/-! ### the table of hits -/
/-- the dot at i falls on a dot, moved r to the right and u up -/
def on (sq : List Int) (r : Nat) (u : Int) (i : Nat) : Bool := decide (g sq i + u = g sq (i + r))
/-- the row of counts over the first k dots: the places stand for the steps up from -(n - 1) on -/
def rowK (sq : List Int) (r k : Nat) : List Int := (List.range (2 * sq.length - 1)).map fun j : Nat => ((cnt (on sq r ((j : Int) - ((sq.length : Int) - 1))) k : Nat) : Int)
def rowOf (sq : List Int) (r : Nat) : List Int := rowK sq r (sq.length - r)
theorem rowK_len (sq : List Int) (r k : Nat) : (rowK sq r k).length = 2 * sq.length - 1 := by
  unfold rowK
  rw [List.length_map, List.length_range]
theorem rowK_at (sq : List Int) (r k : Nat) {j : Nat} (h : j < 2 * sq.length - 1) : (rowK sq r k)[j]? = some ((cnt (on sq r ((j : Int) - ((sq.length : Int) - 1))) k : Nat) : Int) := by
  unfold rowK
  rw [List.getElem?_map, List.getElem?_range h]
  rfl
theorem rowK_zero (sq : List Int) (r : Nat) : rowK sq r 0 = List.replicate (2 * sq.length - 1) 0 := by
  unfold rowK
  rw [List.eq_replicate_iff]
  refine ⟨by rw [List.length_map, List.length_range], fun b hb => ?_⟩
  obtain ⟨i, _, e⟩ := List.mem_map.mp hb
  rw [← e, cnt_zero]
  rfl
/-- where the k-th dot counts -/
def spot (sq : List Int) (r k : Nat) : Nat := (g sq (k + r) - g sq k + (sq.length : Int) - 1).toNat
theorem spot_lt {sq : List Int} (S : Sq sq) {r k : Nat} (h : k + r < sq.length) : ((spot sq r k : Nat) : Int) = g sq (k + r) - g sq k + (sq.length : Int) - 1 ∧ spot sq r k < 2 * sq.length - 1 := by
  have h1 := S.at h
  have h2 := S.at (i := k) (by omega)
  unfold spot
  omega
theorem rowK_step {sq : List Int} (S : Sq sq) {r k : Nat} (h : k + r < sq.length) : (rowK sq r k).set (spot sq r k) (g (rowK sq r k) (spot sq r k) + 1) = rowK sq r (k + 1) := by
  obtain ⟨e1, e2⟩ := spot_lt S h
  have old : g (rowK sq r k) (spot sq r k) = ((cnt (on sq r (((spot sq r k : Nat) : Int) - ((sq.length : Int) - 1))) k : Nat) : Int) := by
    have q := g_at (sq := rowK sq r k) (i := spot sq r k) (by rw [rowK_len]; exact e2)
    rw [rowK_at sq r k e2] at q
    exact (Option.some.inj q).symm
  refine List.ext_getElem? fun j => ?_
  by_cases hj : j < 2 * sq.length - 1
  · rw [rowK_at sq r (k + 1) hj, List.getElem?_set, cnt_succ]
    by_cases e : spot sq r k = j
    · rw [if_pos e, if_pos (by rw [rowK_len]; omega), old, e]
      have hp : on sq r ((j : Int) - ((sq.length : Int) - 1)) k = true := by
        refine decide_eq_true ?_
        rw [← e]
        omega
      rw [if_pos hp]
      rfl
    · rw [if_neg e, rowK_at sq r k hj]
      have hp : ¬ on sq r ((j : Int) - ((sq.length : Int) - 1)) k = true := fun z => by
        have z' : g sq k + ((j : Int) - ((sq.length : Int) - 1)) = g sq (k + r) := of_decide_eq_true z
        apply e
        omega
      rw [if_neg hp]
      rfl
  · rw [List.getElem?_eq_none (by rw [List.length_set, rowK_len]; omega), List.getElem?_eq_none (by rw [rowK_len]; omega)]
/-- Costas squares by their tables -/
theorem costas_iff {sq : List Int} (S : Sq sq) : Costas sq ↔ ∀ r, 1 ≤ r → r < sq.length → ∀ x ∈ rowOf sq r, x ≤ 1 := by
  constructor
  · intro C r h1 h2 x hx
    unfold rowOf rowK at hx
    obtain ⟨j, hj, e⟩ := List.mem_map.mp hx
    refine Decidable.byContradiction fun z => ?_
    obtain ⟨a, m, q1, q2, q3, q4⟩ := cnt_two (p := on sq r ((j : Int) - ((sq.length : Int) - 1))) (k := sq.length - r) (by omega)
    have t3 : g sq a + ((j : Int) - ((sq.length : Int) - 1)) = g sq (a + r) := of_decide_eq_true q3
    have t4 : g sq m + ((j : Int) - ((sq.length : Int) - 1)) = g sq (m + r) := of_decide_eq_true q4
    refine C r a m ⟨h1, q1, by omega, ?_⟩
    unfold rise
    omega
  · intro A s a m ⟨h1, h2, h3, h4⟩
    obtain ⟨e1, e2⟩ := spot_lt S (r := s) (k := a) (by omega)
    unfold rise at h4
    have pa : on sq s (((spot sq s a : Nat) : Int) - ((sq.length : Int) - 1)) a = true := decide_eq_true (by omega)
    have pm : on sq s (((spot sq s a : Nat) : Int) - ((sq.length : Int) - 1)) m = true := decide_eq_true (by omega)
    have two := cnt_ge2 h2 pa pm (k := sq.length - s) (by omega)
    have q := A s h1 (by omega) _ (List.mem_of_getElem? (rowK_at sq s (sq.length - s) e2))
    omega

/-! ### hits -/
/-- the dot at i falls on a dot, both steps any -/
def fall (sq : List Int) (r u : Int) (i : Nat) : Bool := decide (0 ≤ (i : Int) + r ∧ (i : Int) + r < (sq.length : Int) ∧ g sq i + u = g sq ((i : Int) + r).toNat)
def hit (sq : List Int) (r u : Int) : Int := ((cnt (fall sq r u) sq.length : Nat) : Int)
theorem fall_iff {sq : List Int} {r u : Int} {i : Nat} : fall sq r u i = true ↔ ∃ j : Nat, j < sq.length ∧ (j : Int) = (i : Int) + r ∧ g sq j = g sq i + u := by
  unfold fall
  rw [decide_eq_true_eq]
  constructor
  · rintro ⟨h1, h2, h3⟩
    exact ⟨((i : Int) + r).toNat, by omega, by omega, h3.symm⟩
  · rintro ⟨j, h1, h2, h3⟩
    have e : ((i : Int) + r).toNat = j := by omega
    refine ⟨by omega, by omega, ?_⟩
    rw [e]
    omega
end Ec
set_option Elab.async false
set_option linter.all false
set_option maxRecDepth 100000
set_option maxHeartbeats 4000000
/-! Rules of our own: what the layer lacks for this program. -/
namespace Ec
open PySem PySem.Spec PyProof.Rows L2

/-! ### len(set(t)), t a tuple of ints that all differ -/
def tDistinct (K : PySem.W.Frag) (ta : TE) : TE := fun σ H Q => ta σ H fun x H1 => ∃ (l : Addr) (ks : List Int), x = .ref l ∧ SqT K H1 l (ks.map V.int) ∧ ks.Nodup ∧ ks.length ≤ 1000 ∧ Q (.int ((ks.length : Nat) : Int)) H1
theorem count_of {ks : List Int} {w : World} {h : Heap} {a : Addr} {c : Nat} (nd : ks.Nodup) (R : SetR w h a (fun j => decide (j ∈ ks)) c) : c = ks.length := by
  obtain ⟨_, es, _, _, _, _, _, _, nd2, mem, _, _, hn, _, _⟩ := R
  have hp : ks.Perm (es.toList.map keyOf) := (List.perm_ext_iff_of_nodup nd nd2).mpr fun k => by
    rw [← mem k, decide_eq_true_eq]
  have hl := hp.length_eq
  rw [List.length_map] at hl
  have e : es.toList.length = es.size := Array.length_toList
  omega
theorem pe_distinct {X : Cx} {a : Expr} {ta : TE} {p p2 q pos : Pos} (gl : Gl X "len") (ml : X.mg "len" = none) (gs : Gl X "set") (ms : X.mg "set" = none) (ha : PE X a ta)
    (hc : X.calm = true := by rfl) (na : starEach [a] X.env = (false, eval a X.env) :: starEach [] X.env := by rfl) :
    PE X (.Call (.Name "len" p) [.Call (.Name "set" p2) [a] [] q] [] pos) (tDistinct X.K ta) := ⟨fun pins s σ H Q I h =>
  Call_ (ld_blt I gl ml boot_len (callWith_builtin1 (args_cons (Call_ (ld_blt I gs ms boot_set (callWith_type1 (args_cons
    (thn (ha.run pins s σ H _ I h) fun v s1 ⟨x, H1, I1, r1, q1⟩ => args_nil (by
      obtain ⟨l, ks, ex, hq, nd, hl, q1⟩ := q1
      subst ex
      obtain rfl : v = Value.ref l := r1
      obtain ⟨its, rv, pt, _⟩ := I1.tuple hq
      refine call_set_tupI ks (I1.ok.hd hc) (items := its.toArray) pt (ints_of_vals rv) (by unfold scanBound; omega) fun h' tk c R _ kk => args_nil ?_
      have hcn := count_of nd R
      subst hcn
      obtain ⟨o, es, ep, t, ho, hx, hdt, _, _, _, _, hf, hn, _⟩ := R
      have I2 : Inv X pins σ H1 { s1 with heap := h', toks := tk } := I1.kept kk
      exact call_len_set ho hx hdt hf (by omega) ⟨.int ((ks.length : Nat) : Int), H1, I2.tok _, ⟨_, by rw [hn]⟩, q1⟩)) na) na rfl))) rfl) rfl rfl))⟩

/-! ### xs.index(k, f): the first place from f on -/
def rIndexFrom (K : PySem.W.Frag) : V → List V → Hp → VK → Prop := fun x xs H Q => ∃ (a : Addr) (ks : List Int) (k : Int) (f j : Nat), x = V.ref a ∧ xs = [.int k, .int ((f : Nat) : Int)] ∧
  SqL K H a (ks.map V.int) ∧ f ≤ j ∧ ks[j]? = some k ∧ (∀ m, f ≤ m → m < j → ks[m]? ≠ some k) ∧ Q (.int ((j : Nat) : Int)) H
theorem mt_indexFrom {X : Cx} : MtR X "list.index" (rIndexFrom X.K) := by
  intro pins s σ H x args v us Q I rx ra h
  obtain ⟨a, ks, k, f, j, rfl, rfl, hq, hfj, hj, hno, q⟩ := h
  cases (show v = Value.ref a from rx)
  obtain ⟨tk, tf, rfl⟩ := Vals.int2 ra
  obtain ⟨its, rv, ⟨⟨oc, od, dt, sl⟩, n, ho, h1, h2, h3⟩, hz⟩ := I.list hq
  simp only at h1 h3
  subst h1 h3
  have hlen : its.length = ks.length := by rw [← rv.length, List.length_map]
  have hjl : j < ks.length := (List.getElem?_eq_some_iff.mp hj).1
  have hsz := sizeLine_eq
  rw [List.length_map] at hz
  have val : ∀ m (hm : m < its.toArray.size), ∃ i, ks[m]? = some i ∧ RelV (.int i) its.toArray[m] := fun m hm => by
    have hm' : m < its.length := by simpa using hm
    have hk : ks[m]? = some ks[m] := List.getElem?_eq_getElem (by omega)
    obtain ⟨u, hu, ru⟩ := rv.get (i := m) (x := .int ks[m]) (by rw [List.getElem?_map, hk]; rfl)
    have eu : its.toArray[m] = u := by
      obtain ⟨_, e⟩ := List.getElem?_eq_some_iff.mp hu
      simpa using e
    exact ⟨_, hk, by rw [eu]; exact ru⟩
  have sf : SeqAt.searchFrom ((f : Nat) : Int) its.toArray.size = f := SeqAt.searchFrom_nat f _
  refine call_meets PySem.F.slot_list_index ⟨_, ho, rfl⟩ PySem.F.entry_list_index (PySem.F.args_list_index_3 _ _ _)
    (SeqAt.list_index3_found a its.toArray n od sl (.int k tk) (fun m => eqV (.int (ks.getD m 0)) (.int k)) ((f : Nat) : Int) tf j (by simp; omega) (by rw [sf]; exact hfj) (by omega) ?_ ?_) ⟨ho, ?_, ?_⟩
  · show (ks.getD j 0 == k) = true
    rw [List.getD_eq_getElem?_getD, hj]
    exact beq_self_eq_true k
  · intro m hm hfm hmj
    rw [sf] at hfm
    show (ks.getD m 0 == k) = false
    rw [List.getD_eq_getElem?_getD]
    have hk : ks[m]? = some ks[m] := List.getElem?_eq_getElem (by omega)
    rw [hk]
    refine beq_eq_false_iff_ne.mpr fun e => hno m hfm hmj ?_
    rw [hk]
    exact congrArg some e
  · intro m hm
    obtain ⟨i, hi, ri⟩ := val m hm
    have e : ks.getD m 0 = i := by
      rw [List.getD_eq_getElem?_getD, hi]
      rfl
    show SeqAt.EqAt _ _ _ _ (eqV (.int (ks.getD m 0)) (.int k))
    rw [e]
    exact eqAt_V ri ⟨tk, rfl⟩ rfl rfl
  · exact ⟨.int ((j : Nat) : Int), H, I.tok _, ⟨_, rfl⟩, q⟩

/-! ### xs[i] by values, for xs[i] += e -/
def rGetL (K : PySem.W.Frag) : V → V → Hp → VK → Prop := fun o i H Q => ∃ p xs j v, o = .ref p ∧ i = .int ((j : Nat) : Int) ∧ SqL K H p xs ∧ xs[j]? = some v ∧ Q v H
theorem get_list {X : Cx} : PGet X (rGetL X.K) := by
  intro pins s σ H o i ov iv Q I ro ri h
  obtain ⟨p, xs, j, v, rfl, rfl, hq, hj, q⟩ := h
  obtain rfl : ov = Value.ref p := ro
  obtain ⟨t, rfl⟩ := ri
  obtain ⟨vals, rv, pl, _⟩ := I.list hq
  obtain ⟨u, hu, ru⟩ := rv.get hj
  have hjl : j < xs.length := (List.getElem?_eq_some_iff.mp hj).1
  have hn := line63
  exact wpAny_getItem_list pl.isList (by omega) (by omega) (x := u) (by simpa using hu) ⟨v, H, I, ru, q⟩
end Ec
set_option Elab.async false
set_option linter.all false
set_option maxRecDepth 100000
set_option maxHeartbeats 4000000
/-! enumerate(t) over a tuple; a dict comprehension whose keys are tuples. -/
namespace Ec
open PySem PySem.Spec PyProof.Rows L2

/-! ### enumerate(v) with one argument, v told by how its iterator begins -/
theorem enum_made {v : Value} {o : Obj} {G : Heap → Prop} (B : Begins v o G) :
    Meets (Builtin.«enumerate.__new__» ⟨[.type "enumerate", v], []⟩) (fun _ R s => G s.heap ∧ R (.ok (.ret (.ref (s.heap.push o).objs.size)))
      { s with heap := (s.heap.push o).push { cls := .type "enumerate", data := .fields #[.none, .bool false, .ref s.heap.objs.size, rawInt 0, .none, .none] } }) :=
  .of_wp fun prog w A R ⟨hp, gs, dr, tk, os⟩ ⟨hG, h⟩ => by
    have sub := sub_enumerate
    have begin_ : ∀ {A' : Around} {E' : Value → Shared → Prop} {Q' : Value → Shared → Prop}, Q' (.ref hp.objs.size) ⟨hp.push o, gs, dr, tk, os⟩ → wpAny (model prog w) A' (pyIter v) Q' E' ⟨hp, gs, dr, tk, os⟩ :=
      fun q => B.iter prog w _ _ ⟨hp, gs, dr, tk, os⟩ _ hG q
    wp_walk using begin_
    refine wpAny_stack_any fun frames => wpAny_pure ?_
    split
    · rename_i c _ _ _ _ _
      cases (c == Value.type "enumerate") <;> (wp_walk using begin_; exact ⟨_, rfl, h⟩)
    · wp_walk using begin_
      exact ⟨_, rfl, h⟩
theorem call_enum {P : Program} {w : World} {A : Around} {E : Value → Shared → Prop} {s : Shared} {v : Value} {o : Obj} {G : Heap → Prop} {Q : Value → Shared → Prop} (B : Begins v o G) (hG : G s.heap)
    (h : ∀ h', IsEnum h' (s.heap.objs.size + 1) s.heap.objs.size 0 .none → h'.get? s.heap.objs.size = some o → (∀ b u, s.heap.get? b = some u → h'.get? b = some u) → Q (.ref (s.heap.objs.size + 1)) { s with heap := h' }) :
    wpAny (model P w) A (call (.type "enumerate") [v]) Q E s := by
  have sz : (s.heap.push o).objs.size = s.heap.objs.size + 1 := Heap.size_push ..
  have e1 := Heap.get?_push_size (s.heap.push o) (o := { cls := .type "enumerate", data := .fields #[.none, .bool false, .ref s.heap.objs.size, rawInt 0, .none, .none] }) rfl
  rw [sz] at e1
  refine callType_new F.called_enumerate (by decide) (F.typeCall_enumerate_1 _) (F.newCall_enumerate_1 _) (fun obj => F.args_object_init_2 obj _) F.entry_enumerate_new (enum_made B) ⟨hG, ?_⟩
  show _ ∧ _
  rw [sz]
  exact ⟨⟨_, e1, rfl⟩, h _ e1 (Heap.get?_push_of_some _ (Heap.get?_push_size _ B.free)) fun b u q => Heap.get?_push_of_some _ (Heap.get?_push_of_some _ q)⟩

/-! ### for i, x in enumerate(t) -/
/-- the tuple at a: each item in a new pair with its place -/
def Itp (K : PySem.W.Frag) (a : Addr) : It where
  go := fun i H => ∃ (xs : List V) (x : V), SqT K H a xs ∧ xs[i]? = some x
  yld := fun i H v H' => ∃ T x, v = .ref T ∧ H T = none ∧ H' = upd H T (.tup [.int ((i : Nat) : Int), x]) ∧ ∀ xs, SqT K H a xs → xs[i]? = some x
  stop := fun i H => ∃ xs : List V, SqT K H a xs ∧ xs.length = i
theorem turn_pairs {P : Program} {w : World} {K : PySem.W.Frag} {elts : List Expr} {kk : Nat} {tpos : Pos} {a e it : Addr} (ea : e ≠ a) (ia : a ≠ it) (ei : e ≠ it) :
    Turn P w K (.Tuple elts kk tpos) (Itp K a) [e, it] e (fun i h => (∃ old, IsEnum h e it ((i : Nat) : Int) old) ∧ h.IsTupleIter it a i) where
  mem := List.mem_cons_self
  obj := fun i h ⟨⟨old, he⟩, ⟨o, ho, _, hd⟩⟩ b hb => by
    rcases List.mem_cons.mp hb with eb | z
    · exact ⟨_, by rw [eb]; exact he, fun v (q : Data.fields _ = Data.cell v) => nomatch q⟩
    · exact ⟨o, by rw [List.mem_singleton.mp z]; exact ho, fun v q => by rw [hd] at q; cases q⟩
  keep := fun i h h' ⟨⟨old, he⟩, hi⟩ k => ⟨⟨old, k e (by simp) _ he⟩, hi.at fun o q => k it (by simp) o q⟩
  item := by
    intro X hP hw hK hc i pins s σ H E I hf ⟨⟨old, he⟩, hi⟩ ⟨xs, x, hq, hx⟩
    subst hP hw hK
    obtain ⟨its, rv, pt, _⟩ := I.tuple hq
    obtain ⟨u, at_i, ru⟩ := rv.get hx
    have le : e < s.heap.objs.size := Heap.lt_size he
    have li : it < s.heap.objs.size := let ⟨_, q, _⟩ := hi; Heap.lt_size q
    have nef : e ∉ [it, a] := by simp [ei, ea]
    have hlt : i < its.toArray.size := by
      have := (List.getElem?_eq_some_iff.mp at_i).1
      simpa using this
    refine wpAny_pyNext_enum_itemD (Draws.tuple (A := X.A.in1) (I.ok.hd hc) it a ia its.toArray) he ⟨hi, pt⟩ hlt ei nef fun y h' tk hy ho st hT _ hk => ?_
    have ey : y = u := by
      have q : its.toArray[i]? = some u := by simpa using at_i
      rw [hy] at q
      exact Option.some.inj q
    subst ey
    refine ⟨_, rfl, wpAny_letOwnedTupleGo_enum (s := { s with heap := h', toks := tk + 1 }) ho fun h'' he' sb => ?_⟩
    have hT2 := (sb.2 _ (Nat.ne_of_gt le)).trans hT
    have fresh : H s.heap.objs.size = none := I.hok.fresh (Nat.le_refl _)
    have I1 : Inv X pins σ (upd H s.heap.objs.size (.tup [.int ((i : Nat) : Int), x])) { s with heap := h'', toks := tk + 1 } :=
      I.turnedNew (ch := [e, it]) (fun b ob hb q => by
        have n1 : b ≠ e := fun z => hb (by simp [z])
        exact (sb.2 b n1).trans (hk b ob n1 (fun z => hb (by simp [z])) q)) hf (Nat.le_refl _)
        ⟨by show 2 ≤ sizeLine; decide, [.int ((i : Nat) : Int) tk, y], .cons ⟨_, rfl⟩ (.cons ru .nil), ⟨_, hT2, rfl, _, rfl⟩⟩
    refine ⟨.ref s.heap.objs.size, _, I1, rfl, ⟨_, x, rfl, fresh, rfl, fun ys hy => by rw [I.tuple_inj hy hq]; exact hx⟩, ⟨⟨y, ?_⟩, st.1.at fun o q => (sb.2 it (Ne.symm ei)).trans q⟩, fun b hb => ?_⟩
    · rw [show ((i + 1 : Nat) : Int) = (i : Int) + 1 by omega]
      exact he'
    · have lb : b < s.heap.objs.size := by
        rcases List.mem_cons.mp hb with eb | z
        · rw [eb]; exact le
        · rw [List.mem_singleton.mp z]; exact li
      rw [upd_ne (Nat.ne_of_lt lb)]
      exact (hf b hb).1
  done := by
    intro X hP hw hK hc i pins s σ H E I hf ⟨⟨old, he⟩, hi⟩ ⟨xs, hq, hx⟩
    subst hP hw hK
    obtain ⟨its, rv, pt, _⟩ := I.tuple hq
    obtain ⟨n0, n1, _, n3, n4, n5⟩ := hf it (by simp)
    have hl : i = its.toArray.size := by rw [List.size_toArray, ← rv.length, hx]
    rw [hl] at hi
    exact wpAny_pyNext_enum_endD (Draws.tuple (A := X.A.in1) (I.ok.hd hc) it a ia its.toArray) he ⟨hi, pt⟩ fun h' eb => ⟨rfl, I.turned (t' := s.toks) (fun b o hb q => eb b o hb q) n0 n1 n3 n4 n5⟩
  self := fun A i s Q E ⟨⟨_, he⟩, _⟩ h => wpAny_pyIter_enum he h
end Ec
set_option Elab.async false
set_option linter.all false
set_option maxRecDepth 100000
set_option maxHeartbeats 4000000
/-! Walks of enumerate(t) in comprehensions; {(..): v for .. in ..}. -/
namespace Ec
open PySem PySem.Spec PyProof.Rows L2

def iPairs (K : PySem.W.Frag) (ta : TA) : TI := fun σ H R => ta σ H fun vs H1 => ∃ (a : Addr) (xs : List V), vs = [.ref a] ∧ SqT K H1 a xs ∧ R (Itp K a) H1
theorem pi_pairs {X : Cx} {e : Expr} {ta : TA} {p pos tpos : Pos} {elts : List Expr} {kk : Nat} (ge : Gl X "enumerate") (me : X.mg "enumerate" = none) (ha : PA X [e] ta)
    (hs : starEach [e] X.env = [(false, eval e X.env)] := by rfl) : PI X (.Tuple elts kk tpos) (.Call (.Name "enumerate" p) [e] [] pos) (iPairs X.K ta) := by
  refine ⟨fun pins s σ H R I h => Call_ (ld_blt I ge me boot_enumerate (callWith_type1 (thn (ha.run pos pins s σ H _ I h) fun us s1 ⟨vs, H1, I1, r1, a, xs, ev, hq, q⟩ => ?_) hs rfl))⟩
  subst ev
  obtain rfl := r1.ref1
  obtain ⟨its, rv, pt, _⟩ := I1.tuple hq
  have la : a < s1.heap.objs.size := pt.lt
  refine call_enum (begins_tuple a its.toArray) pt fun h' he hit k => wpAny_pyIter_enum he ?_
  refine ⟨s1.heap.objs.size + 1, [s1.heap.objs.size + 1, s1.heap.objs.size], _, _, H1, rfl, I1.kept (t' := s1.toks) k, turn_pairs (fun z => ?_) (Nat.ne_of_lt la) (Nat.succ_ne_self _), ⟨⟨.none, he⟩, ⟨_, hit, rfl, rfl⟩⟩, fun b hb => ?_, q⟩
  · rw [← z] at la
    exact absurd la (Nat.not_lt.mpr (Nat.le_succ _))
  · have young : s1.heap.objs.size ≤ b := by
      rcases List.mem_cons.mp hb with eb | z
      · rw [eb]; exact Nat.le_succ _
      · rw [List.mem_singleton.mp z]; exact Nat.le_refl _
    exact I1.fpOk young (I1.hok.fresh young)

/-- a list comprehension over enumerate(t) -/
theorem lc_pairs {K : PySem.W.Frag} {a : Addr} {xs : List V} {g : TG} {tt : TT} {te : TE} {vs : List Nat} {σ : L2.St} {H1 : Hp} {D : Addr} {Qd : Hp → Prop} (Pv : Nat → Hp → Prop) (h0 : Pv 0 (upd H1 D (.lst [])))
    (hl : ∀ i H, Pv i H → SqT K H a xs)
    (hs : ∀ (i : Nat) x T H, xs[i]? = some x → Pv i H → H T = none → g (.ref T) (wipe σ vs) (upd H T (.tup [.int ((i : Nat) : Int), x])) fun σ2 H2 => wipe σ2 vs = wipe σ vs ∧ tt σ2 H2 fun b H3 =>
      if b = true then te σ2 H3 fun y H4 => ∃ acc, H4 D = some (.lst acc) ∧ acc.length < sizeLine ∧ Pv (i + 1) (upd H4 D (.lst (acc ++ [y]))) else Pv (i + 1) H3)
    (hd : ∀ H, Pv xs.length H → Qd H) :
    ∃ W : Nat → Nat → Hp → Prop, (∃ m, W 0 m (upd H1 D (.lst []))) ∧ ∀ i m H, W i m H → ((Itp K a).stop i H ∧ Qd H) ∨ ((Itp K a).go i H ∧ ∃ Nx : Hp → Prop, (∀ H', Nx H' → ∃ m', m' < m ∧ W (i + 1) m' H') ∧
      ∀ x H', (Itp K a).yld i H x H' → g x (wipe σ vs) H' fun σ2 H2 => wipe σ2 vs = wipe σ vs ∧ tt σ2 H2 fun b H3 =>
        if b = true then te σ2 H3 fun y G => ∃ acc, G D = some (.lst acc) ∧ acc.length < sizeLine ∧ Nx (upd G D (.lst (acc ++ [y]))) else Nx H3) := by
  refine ⟨fun i m H => i + m = xs.length ∧ Pv i H, ⟨xs.length, Nat.zero_add _, h0⟩, fun i m H ⟨em, p⟩ => ?_⟩
  have q := hl i H p
  cases m with
  | zero =>
    obtain rfl : i = xs.length := em
    exact .inl ⟨⟨xs, q, rfl⟩, hd H p⟩
  | succ m =>
    have hi : xs[i]? = some xs[i] := List.getElem?_eq_getElem (by omega)
    refine .inr ⟨⟨xs, _, q, hi⟩, Pv (i + 1), fun H' p' => ⟨m, Nat.lt_succ_self m, by omega, p'⟩, fun x H' hy => ?_⟩
    obtain ⟨T, y, rfl, nT, rfl, hx⟩ := hy
    exact hs i y T H (hx xs q) p nT

/-! ### {(..): v for target in iter} -/
theorem put_tup {X : Cx} {pins : List (Addr × Obj)} {σ : L2.St} {H : Hp} {s : Shared} {E : Value → Shared → Prop} {A : Around} {D b : Addr} {kvs : List (List Key × V)} {k : List Key} {v : V} {u r : Value} {Q : Unit → Shared → Prop}
    (hu : A.units < cLine) (I : Inv X pins σ H s) (hD : H D = some (.dT kvs)) (hb : H b = some (.tup (k.map kV))) (hz : kvs.length < sizeLine) (rb : RelV (.ref b) u) (rv : RelV v r)
    (h : ∀ s', Inv X pins σ (upd H D (.dT (putK kvs k v))) s' → Q () s') : wpAny (model X.prog X.w) A (dictSet D u r) Q E s := by
  obtain rfl : u = Value.ref b := rb
  obtain ⟨_, hs, xs, rel, dd⟩ := dt_of I.hok hD
  have hx : xs.length ≤ sizeLine := by rw [← Paired.length rel]; omega
  have hl := length_putK kvs k v
  refine wpAny_dictSet_heap (hsz := hx) (show (tupleKind (mixKind X.prog X.w)).room A from hu) (key_of I.hok hb) dd fun h' dd' sb => h _ ?_
  obtain ⟨o, es, ep, ho, c1, c2, c3, _, c4⟩ := dd'
  exact d_write I (by rw [hD]; trivial) sb ⟨o, ho⟩ ⟨by omega, hs, _, (rel.put k hb rv).keeps fun c ys ec => by rw [upd_ne (ne_of ec hD fun z => nomatch z)]; exact ec, o, es, ep, ho, c1, c2, c3, c4⟩

section
variable {X : Cx}
/-- D the new dict, W by the turn and a measure -/
def tDcT (wi : TI) (g : TG) (tk tv : TE) (vs : List Nat) : TE := fun σ H Q => wi σ H fun J H1 => ∀ D, H1 D = none → ∃ W : Nat → Nat → Hp → Prop, (∃ m, W 0 m (upd H1 D (.dT []))) ∧ ∀ i m H, W i m H →
  (J.stop i H ∧ Q (.ref D) H) ∨ (J.go i H ∧ ∃ Nx : Hp → Prop, (∀ H', Nx H' → ∃ m', m' < m ∧ W (i + 1) m' H') ∧ ∀ x H', J.yld i H x H' → g x (wipe σ vs) H' fun σ2 H2 => wipe σ2 vs = wipe σ vs ∧
    tk σ2 H2 fun y H3 => tv σ2 H3 fun z H4 => ∃ kvs k b, y = .ref b ∧ H4 b = some (.tup (k.map kV)) ∧ H4 D = some (.dT kvs) ∧ kvs.length < sizeLine ∧ Nx (upd H4 D (.dT (putK kvs k z))))

theorem pe_dcT {kx vx tg iter : Expr} {scope : Scope} {own : List (Str × Nat)} {pos : Pos} {wi : TI} {g : TG} {tk tv : TE} (hc : X.calm = true) (hN : X.N.Nodup) (hu : X.A.units < cLine) (hi : PI X tg iter wi) (ok : BlkOk X.N X.env.scope scope own)
    (hg : ∀ (z : Shared) (G : Hp) (C : Addr) (cl : List (Str × Addr)) (fp : List Addr), PG (X.blk z G scope (compEnvC scope cl C X.env) fp) tg g)
    (hk : ∀ (z : Shared) (G : Hp) (C : Addr) (cl : List (Str × Addr)) (fp : List Addr), PE (X.blk z G scope (compEnvC scope cl C X.env) fp) kx tk)
    (hv : ∀ (z : Shared) (G : Hp) (C : Addr) (cl : List (Str × Addr)) (fp : List Addr), PE (X.blk z G scope (compEnvC scope cl C X.env) fp) vx tv)
    (hs : ∀ x, foldedSetIterable iter X.env x = pure x := by intro _; rfl) : PE X (.DictComp kx vx [⟨tg, iter, [], 0⟩] scope pos) (tDcT wi g tk tv (own.map (·.2))) := by
  refine ⟨fun pins s σ H Q I h => ?_⟩
  rw [arm_eval_DictComp]
  have cells : ∀ y ∈ scope.names, y.2 = .free → ∃ c, X.env.cells.lookup y.1 = some c := fun y hy e => I.ok.has _ (ok.free y hy e)
  refine wpAny_comprehension_free rfl hs (closure_ok cells) ok.kind (fun y hy e => by rw [ok.uniq y hy, e]) (thn (hi.run pins s σ H _ I h) fun xv s1 hx => thn hx fun itv s2 h2 => ?_)
  obtain ⟨it, fp, tn, J, H2, ei, I2, T, st2, f2, q⟩ := h2
  subst ei
  -- the new dict stands at d
  refine wpAny_newObj_type (newEnv_comp (Q := _) ?_)
  have nd : H2 s2.heap.objs.size = none := I2.hok.fresh (Nat.le_refl _)
  obtain ⟨W, ⟨m0, w0⟩, turn⟩ := q s2.heap.objs.size nd
  have I3 : Inv X pins σ (upd H2 s2.heap.objs.size (.dT [])) { s2 with heap := s2.heap.push { cls := .type "dict", data := .dict #[] } } :=
    I2.laid (t' := s2.toks) (fun b o e => Heap.get?_push_of_some _ e) (Nat.le_refl _) (dt_empty s2.heap I2.big)
  have small : ∀ b ∈ fp, b < s2.heap.objs.size := fun b hb => let ⟨_, e, _⟩ := T.obj _ _ st2 b hb; Heap.lt_size e
  have f3 : ∀ b ∈ fp, FpOk X pins (upd H2 s2.heap.objs.size (.dT [])) b ∧ b < (s2.heap.push { cls := .type "dict", data := .dict #[] }).objs.size := fun b hb =>
    ⟨⟨by rw [upd_ne (Nat.ne_of_lt (small b hb))]; exact (f2 b hb).1, (f2 b hb).2⟩, by rw [Heap.size_push]; exact Nat.lt_succ_of_lt (small b hb)⟩
  generalize hd : s2.heap.objs.size = d at *
  generalize hs3 : ({ s2 with heap := s2.heap.push { cls := .type "dict", data := .dict #[] } } : Shared) = s3 at *
  have e3 : s2.heap.push { cls := .type "dict", data := .dict #[] } = s3.heap := by rw [← hs3]
  rw [e3] at f3
  have st3 : tn 0 s3.heap := T.keep _ _ _ st2 fun b _ o e => by rw [← e3]; exact Heap.get?_push_of_some _ e
  have inB := block_start I3 ok hN f3
  have pg := hg s3 (upd H2 d (.dT [])) s3.heap.objs.size (cellsFrom (s3.heap.objs.size + 1) scope.names (cloFrom X.env.cells scope.names [])) fp
  have pk := hk s3 (upd H2 d (.dT [])) s3.heap.objs.size (cellsFrom (s3.heap.objs.size + 1) scope.names (cloFrom X.env.cells scope.names [])) fp
  have pv := hv s3 (upd H2 d (.dT [])) s3.heap.objs.size (cellsFrom (s3.heap.objs.size + 1) scope.names (cloFrom X.env.cells scope.names [])) fp
  have cL : (compEnvC scope (cellsFrom (s3.heap.objs.size + 1) scope.names (cloFrom X.env.cells scope.names [])) s3.heap.objs.size X.env).locals = s3.heap.objs.size := rfl
  have st4 : tn 0 ({ s3 with heap := pushCells (s3.heap.push { cls := .type "dict", data := .dict #[] }) scope.names } : Shared).heap := T.keep _ _ _ st3 fun b _ o e => pushCells_keeps _ _ _ _ (Heap.get?_push_of_some _ e)
  show codeAny _ _ (.compStart (.DictComp kx vx [⟨tg, iter, [], 0⟩] scope pos) 0 (.ref it) (.ref d) (compEnvC scope (cellsFrom (s3.heap.objs.size + 1) scope.names (cloFrom X.env.cells scope.names [])) s3.heap.objs.size X.env))
    (compPost (model X.prog X.w) X.A X.xe none (EP X pins σ Q) (.ref d) s3.heap.objs.size) { s3 with heap := pushCells (s3.heap.push { cls := .type "dict", data := .dict #[] }) scope.names }
  generalize compEnvC scope (cellsFrom (s3.heap.objs.size + 1) scope.names (cloFrom X.env.cells scope.names [])) s3.heap.objs.size X.env = ce at inB pg pk pv cL ⊢
  generalize ({ s3 with heap := pushCells (s3.heap.push { cls := .type "dict", data := .dict #[] }) scope.names } : Shared) = s4 at inB st4 ⊢
  generalize upd H2 d (.dT []) = H3 at I3 inB pg pk pv w0 f3
  -- the block's own iterator, whatever the heap
  have its : ∀ {σ' : L2.St} {H' : Hp} {s' : Shared}, Inv (X.blk s3 H3 scope ce fp) [] σ' H' s' → (∀ b ∈ fp, H' b = none) → ∀ b ∈ fp, FpOk (X.blk s3 H3 scope ce fp) [] H' b := fun J' nn b hb =>
    ⟨nn b hb, (J'.ok.exf b hb).1, J'.ok.exfs b hb, .inl hb, fun x c e => (J'.ok.exf b hb).2 x c e, fun p hp => nomatch (show p ∈ ([] : List (Addr × Obj)) from hp)⟩
  have loop : codeAny (model X.prog X.w) X.A (.compLoop (.DictComp kx vx [⟨tg, iter, [], 0⟩] scope pos) 0 (.ref it) (.ref d) ce) (compPost (model X.prog X.w) X.A X.xe none (EP X pins σ Q) (.ref d) s3.heap.objs.size) s4 := by
    refine compLoop_anyD (fun n s' => ∃ i H', Inv (X.blk s3 H3 scope ce fp) [] (wipe σ (own.map (·.2))) H' s' ∧ tn i s'.heap ∧ (∀ b ∈ fp, H' b = none) ∧ W i n H') ?_ m0 ⟨0, H3, inB, st4, fun b hb => (f3 b hb).1.1, w0⟩
    rintro n z5 ⟨i, G5, J5, tn5, out5, W5⟩
    rcases turn i n G5 W5 with ⟨stop, fin⟩ | ⟨go, Nx, again, turnOk⟩
    · refine thnF (T.done (X.blk s3 H3 scope ce fp) rfl rfl rfl hc i [] z5 _ G5 (fun _ _ => False) J5 (its J5 out5) tn5 stop) fun r z6 ⟨er, J6⟩ => ?_
      subst er
      have JA : Inv X pins σ G5 z6 := I3.call' (ch := fp) J6.os J6.base J6.hok J6.bare fun b hb => let z := (f3 b hb).1.2; ⟨z.2.2.1, z.1, z.2.2.2.1, z.2.2.2.2⟩
      have nC : G5 s3.heap.objs.size = none := by
        rw [← cL]
        exact J6.free
      obtain ⟨m, hn, _⟩ := J6.loc
      have hn' : z6.heap.Ns s3.heap.objs.size m := by
        rw [← cL]
        exact hn
      obtain ⟨f0, g1, g2, g3, g4, g5⟩ := I3.fpOk (b := s3.heap.objs.size) (Nat.le_refl _) nC
      exact ⟨m, hn', fun h'' sb => ⟨.ref d, G5, JA.turned (t' := z6.toks) (fun b o hb e => (sb.2 b hb).trans e) f0 g1 g3 g4 g5, rfl, fin⟩⟩
    · refine thnF (T.item (X.blk s3 H3 scope ce fp) rfl rfl rfl hc i [] z5 _ G5 (fun _ _ => False) J5 (its J5 out5) tn5 go) fun r z6 ⟨u, er, hA⟩ => ?_
      subst er
      refine thnF hA fun _ zA ⟨x, GA, JA, rA, gives, tn7, out7⟩ => ?_
      refine thnF (pg.run _ zA _ GA x u _ (JA.pinned (its JA out7) (T.obj _ _ tn7)) rA (turnOk x GA gives)) fun _ zB ⟨σB, GB, JB, hw, qB⟩ => ?_
      refine thnF ((pts_nil (X := X.blk s3 H3 scope ce fp)).run _ zB σB GB (fun b H => b = true ∧ H = GB) JB ⟨rfl, rfl⟩) fun b zC ⟨GC, JC, eb, eH⟩ => ?_
      subst eb eH
      refine thnF (pk.run _ zC σB GC _ JC qB) fun z zD ⟨yk, GD, JD, rk, qD⟩ => ?_
      refine thnF (pv.run _ zD σB GD _ JD qD) fun z2 zE ⟨yv, GE, JE, rv, kvs, k, b, ek, hb, hD, hz, nx⟩ => ?_
      subst ek
      refine put_tup (X := X.blk s3 H3 scope ce fp) hu JE hD hb hz rk rv fun zF JF => ?_
      obtain ⟨m', hm, w'⟩ := again _ nx
      have pin' : ∀ b ∈ fp, ∀ o, zA.heap.get? b = some o → zF.heap.get? b = some o ∧ upd GE d (.dT (putK kvs k yv)) b = none := fun b hb o e =>
        let z := JF.pin (b, o) (List.mem_append_right _ (List.mem_append_right _ (mem_pinsAt hb e)))
        ⟨z.1, z.2.1⟩
      refine ⟨m', hm, i + 1, _, (JF.unpinned (pins := [])).weak (by rw [← hw, wipe_length]) fun j v e => ?_, T.keep _ _ _ tn7 fun b hb o e => (pin' b hb o e).1, fun b hb => ?_, w'⟩
      · rw [← hw] at e
        exact (wipe_some e).1
      · exact let ⟨o, e, _⟩ := T.obj _ _ tn7 b hb; (pin' b hb o e).2
  refine codeAny_compStart_dict loop ?_
  exact T.self X.A 0 _ _ _ st4 loop
end
end Ec
set_option Elab.async false
set_option linter.all false
set_option maxRecDepth 100000
set_option maxHeartbeats 4000000
/-! The text by places, the names at the top, words for heaps. -/
namespace Ec
open PySem PySem.Spec PyProof.Rows L2

def top (i : Nat) : Stmt := PySem.Challenge.pw_echowords_k35_whole_equal_steps.main.body.getD i (.Pass ⟨0, 0, 0, 0⟩)
abbrev sIsInt : Stmt := top 5
abbrev sIsIn : Stmt := top 6
abbrev sNeed : Stmt := top 9
abbrev sFirst : Stmt := top 10
abbrev sLeast : Stmt := top 11
abbrev sSteps : Stmt := top 12
abbrev sCostas : Stmt := top 13
abbrev sHits : Stmt := top 14
abbrev sTable : Stmt := top 15
abbrev sTaken : Stmt := top 17
abbrev sPick : Stmt := top 18
abbrev sAlike : Stmt := top 19
abbrev sDraw : Stmt := top 20
abbrev sEqual : Stmt := top 21
abbrev sLaw : Stmt := top 22
/-- the built-ins that stand as they are -/
structure Bare (mg : Str → Option Value) : Prop where
  len : mg "len" = none
  range : mg "range" = none
  isi : mg "isinstance" = none
  int : mg "int" = none
  bool : mg "bool" = none
  str : mg "str" = none
  tuple : mg "tuple" = none
  list : mg "list" = none
  all : mg "all" = none
  set : mg "set" = none
  enum : mg "enumerate" = none
  max : mg "max" = none

/-! ### heaps -/
theorem same_new {H : Hp} {p : Addr} {o : HO} (n : H p = none) : Same H (upd H p o) := fun b u e => by
  rw [upd_ne (ne_of_none e n)]
  exact e
theorem _root_.L2.Same.new {H H' : Hp} {p : Addr} {o : HO} (s : Same H H') (n : H' p = none) : Same H (upd H' p o) := s.trans (same_new n)
/-- an object that H does not know is written -/
theorem _root_.L2.Same.wr {H H' : Hp} {p : Addr} {o : HO} (s : Same H H') (n : H p = none) : Same H (upd H' p o) := fun b u e => by
  rw [upd_ne (ne_of_none e n)]
  exact s b u e
theorem _root_.L2.Same.tup {K : PySem.W.Frag} {H H' : Hp} {a : Addr} {xs : List V} (e : Same H H') (h : SqT K H a xs) : SqT K H' a xs := by
  rcases h with (at_ | ⟨u, at_⟩) | h
  · exact .inl (.inl (e _ _ at_))
  · exact .inl (.inr ⟨u, e _ _ at_⟩)
  · exact .inr h
/-- all that was tracked is as it was, but p -/
def But (p : Addr) (H H' : Hp) : Prop := ∀ b o, b ≠ p → H b = some o → H' b = some o
theorem But.refl (p : Addr) (H : Hp) : But p H H := fun _ _ _ h => h
theorem But.trans {p : Addr} {H H1 H2 : Hp} (a : But p H H1) (b : But p H1 H2) : But p H H2 := fun c o n h => b c o n (a c o n h)
theorem _root_.L2.Same.but {H H' : Hp} (s : Same H H') (p : Addr) : But p H H' := fun b o _ h => s b o h
theorem But.upd {p : Addr} {H H' : Hp} {o : HO} (a : But p H H') : But p H (upd H' p o) := fun b u n h => by
  rw [upd_ne n]
  exact a b u n h
theorem But.new {p q : Addr} {H H' : Hp} {o : HO} (a : But p H H') (n : H' q = none) : But p H (L2.upd H' q o) := a.trans (L2.Same.but (same_new n) p)
abbrev Ints (ks : List Int) : List V := ks.map V.int
theorem ints_at {ks : List Int} {i : Nat} (h : i < ks.length) : (Ints ks)[i]? = some (.int (g ks i)) := by
  show (ks.map V.int)[i]? = _
  rw [List.getElem?_map, g_at h]
  rfl
theorem ints_len (ks : List Int) : (Ints ks).length = ks.length := List.length_map ..
theorem small30 {n : Nat} (h : n ≤ 1000) : n ≤ sizeLine := Nat.le_of_lt (small1000 h)
end Ec
set_option Elab.async false
set_option linter.all false
set_option maxRecDepth 100000
set_option maxHeartbeats 4000000
/-! is_int, is_in, _law_taken, _law_pick. -/
namespace Ec
open PySem PySem.Spec PyProof.Rows L2
section
variable {P : Program} {w : World} {K : PySem.W.Frag} {mg : Str → Option Value} {base : Heap}
/-! ### is_int -/
theorem scIsInt : FnScope ["value"] ["value"] (defScope sIsInt) := ⟨rfl, rfl, rfl, by decide +kernel, rfl, by decide +kernel, by decide +kernel⟩
def spIsInt : Sp := fun vs H Q _ => ∃ i : Int, vs = [.int i] ∧ Q (.bl true) H
theorem int_int {K : PySem.W.Frag} : PySem.W.kitOne K (.type "int") (.type "int") = some true := kit_ty (by decide +kernel)
theorem int_bool {K : PySem.W.Frag} : PySem.W.kitOne K (.type "int") (.type "bool") = some false := kit_ty (by decide +kernel)
theorem ok_isInt {f : Addr} {fd : FuncData} {k : Nat} (F : Fun K "is_int" "is_int" sIsInt f fd) (B : Bare mg) : FnOk P w K mg base CX0 (k + 1) f fd ["value"] spIsInt := by
  refine F.ok scIsInt (fun vs H Q E h => ?_) (fun cdv A outer s H vs Q E hr h => ?_)
  · obtain ⟨i, rfl, _⟩ := h
    rfl
  · obtain ⟨i, rfl, q⟩ := h
    refine ⟨_, pss_one (ps_ret (pe_and
      (pe_callB call_isi (by rfl) B.isi (by decide +kernel) (pa_cons (pv 0) (pa_cons (pe_bltn (v := .ty "int") (by rfl) B.int (by decide +kernel) rfl) pa_nil)))
      (pe_one (pe_not (pe_callB call_isi (by rfl) B.isi (by decide +kernel) (pa_cons (pv 0) (pa_cons (pe_bltn (v := .ty "bool") (by rfl) B.bool (by decide +kernel) rfl) pa_nil))))))), ?_⟩
    refine ⟨_, rfl, .int i, _, _, _, true, rfl, .ty "int", .base (.int i), int_int, true, rfl, iteT ?_⟩
    exact ⟨_, rfl, .int i, _, _, _, false, rfl, .ty "bool", .base (.int i), int_bool, false, rfl, q⟩
/-! ### is_in -/
theorem scIsIn : FnScope ["value", "least", "most"] ["value", "least", "most"] (defScope sIsIn) := ⟨rfl, rfl, rfl, by decide +kernel, rfl, by decide +kernel, by decide +kernel⟩
def spIsIn : Sp := fun vs H Q _ => ∃ i a b : Int, vs = [.int i, .int a, .int b] ∧ a ≤ i ∧ i ≤ b ∧ Q (.bl true) H
theorem ok_isIn {f fI : Addr} {fd fdI : FuncData} (F : Fun K "is_in" "is_in" sIsIn f fd) (FI : Fun K "is_int" "is_int" sIsInt fI fdI) (bI : Binds K fdI ["value"] []) (gI : mg "is_int" = some (.ref fI)) (B : Bare mg) :
    FnOk P w K mg base CX0 2 f fd ["value", "least", "most"] spIsIn := by
  have GI : FnOk P w K mg base CX0 1 fI fdI ["value"] spIsInt := ok_isInt FI B
  refine F.ok scIsIn (fun vs H Q E h => ?_) (fun cdv A outer s H vs Q E hr h => ?_)
  · obtain ⟨i, a, b, rfl, _⟩ := h
    rfl
  · obtain ⟨i, a, b, rfl, h1, h2, q⟩ := h
    refine ⟨_, pss_one (ps_ret (pe_and (pe_call GI hr (by rfl) gI FI.kp bI .nil pass0 (pa_cons (pv 0) pa_nil)) (pe_one (pe_chain op_le op_le (pv 1) (pv 0) (pv 2))))), ?_⟩
    refine ⟨_, rfl, i, rfl, true, rfl, iteT ⟨_, rfl, _, rfl, a, i, rfl, rfl, decide (a ≤ i), rfl, ?_⟩⟩
    rw [decide_eq_true h1]
    refine iteT ⟨_, rfl, i, b, rfl, rfl, ?_⟩
    show Q (.bl (decide (i ≤ b))) H
    rw [decide_eq_true h2]
    exact q

/-! ### _law_taken -/
theorem scTaken : FnScope ["_law_row", "_law_many", "_law_found", "_law_cell"] ["_law_row", "_law_many"] (defScope sTaken) := ⟨rfl, rfl, rfl, by decide +kernel, rfl, by decide +kernel, by decide +kernel⟩
/-- the row list at p: the script at a, then three ints, the first of them a place -/
def rowV (a : Addr) (i s c : Int) : List V := [.ref a, .int i, .int s, .int c]
def Row (K : PySem.W.Frag) (p a : Addr) (ns : List Int) (H : Hp) : Prop := SqL K H a (Ints ns) ∧ ∃ i s c : Int, 0 ≤ i ∧ H p = some (.lst (rowV a i s c))
theorem row_script {K : PySem.W.Frag} {p a : Addr} {ns : List Int} {H : Hp} {i s c : Int} {o : HO} (h : SqL K H a (Ints ns)) (hp : H p = some (.lst (rowV a i s c))) : SqL K (upd H p o) a (Ints ns) := by
  rcases h with (h | ⟨u, h⟩) | h
  · refine .inl (.inl ?_)
    rw [upd_ne (ne_of h hp fun z => ?_)]
    · exact h
    · have z' : Ints ns = rowV a i s c := HO.lst.inj z
      cases ns with
      | nil => cases z'
      | cons n r => cases (List.cons.inj z').1
  · refine .inl (.inr ⟨u, ?_⟩)
    rw [upd_ne (ne_of h hp fun z => nomatch z)]
    exact h
  · exact .inr h
theorem Row.same {K : PySem.W.Frag} {p a : Addr} {ns : List Int} {H H' : Hp} (R : Row K p a ns H) (s : Same H H') : Row K p a ns H' := let ⟨h, i, t, c, h0, hp⟩ := R; ⟨s.seq h, i, t, c, h0, s _ _ hp⟩
def spTaken (K : PySem.W.Frag) : Sp := fun vs H Q _ => ∃ (p a : Addr) (ns : List Int) (m : Int), vs = [.ref p, .int m] ∧ Row K p a ns H ∧ 0 < m ∧ m ≤ 1000 ∧
  ∀ (v : Int) (H' : Hp), 0 ≤ v → v < m → Row K p a ns H' → But p H H' → Q (.int v) H'
theorem fmod_in {x m : Int} (h : 0 < m) : 0 ≤ x.fmod m ∧ x.fmod m < m := ⟨Int.fmod_nonneg_of_pos x h, Int.fmod_lt_of_pos x h⟩
theorem ok_taken {f : Addr} {fd : FuncData} {k : Nat} (F : Fun K "_law_taken" "_law_taken" sTaken f fd) (B : Bare mg) : FnOk P w K mg base CX0 (k + 1) f fd ["_law_row", "_law_many"] (spTaken K) := by
  refine F.ok scTaken (fun vs H Q E h => ?_) (fun cdv A outer s H vs Q E hr h => ?_)
  · obtain ⟨p, a, ns, m, rfl, _⟩ := h
    rfl
  · obtain ⟨p, a, ns, m, rfl, ⟨hS, i, t, c, h0, hp⟩, m0, m1, q⟩ := h
    have m2 : CDivN 0 m := ⟨by omega, by omega⟩
    refine ⟨_, pss_cons (ps_if (pt_cmpR op_gt (pe_ix ix_list (pv 0) pe_int (fun _ _ => rfl)) pe_int (nomark _)) (pss_cons (ps_set (i := 2) scTaken.nd rfl (Or.inl rfl) (pe_op op_modN (pe_callTy call_int1 (by rfl) B.int (by decide +kernel) (pa_cons (pe_ix ix_list (pv 0) pe_int (fun _ _ => rfl)) pa_nil)) (pv 1))) (pss_cons (ps_asg (pe_op op_fdivN (pe_ix ix_list (pv 0) pe_int (fun _ _ => rfl)) (pv 1)) (pg_sub (pv 0) pe_int set_list)) (pss_one (ps_ret (pv 2))))) pss_nil)
      (pss_cons (ps_asg (pe_op op_add (pe_ix ix_list (pv 0) pe_int (fun _ _ => rfl)) pe_int) (pg_sub (pv 0) pe_int set_list))
      (pss_cons (ps_if (pt_cmpR op_gt (pe_ix ix_list (pv 0) pe_int (fun _ _ => rfl)) (pe_callB call_len_seq (by rfl) B.len PySem.boot_len (pa_cons (pe_ix ix_list (pv 0) pe_int (fun _ _ => rfl)) pa_nil)) (nomark _)) (pss_cons (ps_asg (pe_op op_modN (pe_callTy call_int1 (by rfl) B.int (by decide +kernel) (pa_cons (pe_op op_add (pe_op op_mul (pe_ix ix_list (pv 0) pe_int (fun _ _ => rfl)) pe_int) pe_int) pa_nil)) pe_int) (pg_sub (pv 0) pe_int set_list)) (pss_one (ps_ret (pe_op op_modN (pe_callTy call_int1 (by rfl) B.int (by decide +kernel) (pa_cons (pe_op op_fdivN (pe_ix ix_list (pv 0) pe_int (fun _ _ => rfl)) pe_int) pa_nil)) (pv 1))))) pss_nil)
      (pss_cons (ps_set (i := 3) scTaken.nd rfl (Or.inl rfl) (pe_ix ix_list (pe_ix ix_list (pv 0) pe_int (fun _ _ => rfl)) (pe_op op_sub (pe_ix ix_list (pv 0) pe_int (fun _ _ => rfl)) pe_int) (fun _ _ => rfl)))
      (pss_cons (ps_asg (pe_op op_modN (pe_callTy call_int1 (by rfl) B.int (by decide +kernel) (pa_cons (pe_op op_add (pe_op op_add (pe_op op_mul (pe_ix ix_list (pv 0) pe_int (fun _ _ => rfl)) pe_int) (pv 3)) pe_int) pa_nil)) pe_int) (pg_sub (pv 0) pe_int set_list))
      (pss_cons (ps_if (pt_cmpR op_ge (pv 3) (pe_op op_pow pe_int pe_int) (nomark _)) (pss_one (ps_asg (pe_op op_fdivN (pv 3) (pv 1)) (pg_sub (pv 0) pe_int set_list))) pss_nil)
      (pss_one (ps_ret (pe_op op_modN (pe_callTy call_int1 (by rfl) B.int (by decide +kernel) (pa_cons (pv 3) pa_nil)) (pv 1))))))))), ?_⟩
    -- a cell's rest
    refine ⟨_, rfl, p, _, _, _, rfl, rfl, SqL.of hp, rfl, c, 0, rfl, rfl, _, rfl, ite2 (fun hc => ?_) (fun hc => ?_)⟩
    · refine ⟨_, rfl, p, _, _, _, rfl, rfl, SqL.of hp, rfl, .inl ⟨c, rfl, _, rfl, c, m, rfl, rfl, m2.1, ?_⟩⟩
      refine ⟨_, rfl, p, _, _, _, rfl, rfl, SqL.of hp, rfl, _, rfl, c, m, rfl, rfl, m2, _, rfl, p, _, _, 3, rfl, rfl, hp, rfl, ?_⟩
      exact ⟨_, rfl, q _ _ (fmod_in m0).1 (fmod_in m0).2 ⟨row_script hS hp, i, t, c.fdiv m, h0, upd_same⟩ (But.refl p H).upd⟩
    · -- the next place
      refine ⟨_, rfl, p, _, _, _, rfl, rfl, SqL.of hp, rfl, i, 1, rfl, rfl, _, rfl, p, _, _, 1, rfl, rfl, hp, rfl, ?_⟩
      have hp1 : (upd H p (.lst (rowV a (i + 1) t c))) p = some (.lst (rowV a (i + 1) t c)) := upd_same
      have hS1 : SqL K (upd H p (.lst (rowV a (i + 1) t c))) a (Ints ns) := row_script hS hp
      have b1 : But p H (upd H p (.lst (rowV a (i + 1) t c))) := (But.refl p H).upd
      show tSeq _ _ _ _ (upd H p (.lst (rowV a (i + 1) t c)))
      generalize upd H p (.lst (rowV a (i + 1) t c)) = H1 at hp1 hS1 b1 ⊢
      refine ⟨_, rfl, p, _, _, _, rfl, rfl, SqL.of hp1, rfl, _, rfl, p, _, _, _, rfl, rfl, SqL.of hp1, rfl, a, _, rfl, .inl hS1, i + 1, _, rfl, rfl, _, rfl, ite2 (fun hi => ?_) (fun hi => ?_)⟩
      · -- behind the script's end
        refine ⟨_, rfl, p, _, _, _, rfl, rfl, SqL.of hp1, rfl, t, 48271, rfl, rfl, .inr (by decide), _, 11, rfl, rfl, .inl ⟨_, rfl, _, 2147483647, rfl, rfl, (show (2147483647 : Int) ≠ 0 by decide), _, rfl, p, _, _, 2, rfl, rfl, hp1, rfl, ?_⟩⟩
        refine ⟨_, rfl, p, _, _, _, rfl, rfl, SqL.of upd_same, rfl, _, 7, rfl, rfl, ⟨by decide, by decide⟩, .inl ⟨_, rfl, _, rfl, _, m, rfl, rfl, m2.1, ?_⟩⟩
        exact q _ _ (fmod_in m0).1 (fmod_in m0).2 ⟨row_script hS1 hp1, i + 1, _, c, by omega, upd_same⟩ b1.upd
      · -- a cell
        have hi' : ¬ (((Ints ns).length : Nat) : Int) < i + 1 := fun z => hi (decide_eq_true z)
        have hl : i.toNat < ns.length := by
          rw [ints_len] at hi'
          omega
        have hc : atI (Ints ns) (i + 1 - 1) = some (.int (g ns i.toNat)) := at_of (j := i.toNat) (by omega) (ints_at hl)
        generalize g ns i.toNat = x at hc
        refine ⟨_, rfl, p, _, _, _, rfl, rfl, SqL.of hp1, rfl, _, rfl, p, _, _, _, rfl, rfl, SqL.of hp1, rfl, i + 1, 1, rfl, rfl, a, _, _, _, rfl, rfl, hS1, hc, ?_⟩
        refine ⟨_, rfl, p, _, _, _, rfl, rfl, SqL.of hp1, rfl, t, 48271, rfl, rfl, .inr (by decide), _, rfl, _, x, rfl, rfl, _, 11, rfl, rfl, .inl ⟨_, rfl, _, 2147483647, rfl, rfl, (show (2147483647 : Int) ≠ 0 by decide), _, rfl, p, _, _, 2, rfl, rfl, hp1, rfl, ?_⟩⟩
        have hp2 : (upd H1 p (.lst (rowV a (i + 1) ((t * 48271 + x + 11).fmod 2147483647) c))) p = some (.lst (rowV a (i + 1) ((t * 48271 + x + 11).fmod 2147483647) c)) := upd_same
        have hS2 : SqL K (upd H1 p (.lst (rowV a (i + 1) ((t * 48271 + x + 11).fmod 2147483647) c))) a (Ints ns) := row_script hS1 hp1
        have b2 : But p H (upd H1 p (.lst (rowV a (i + 1) ((t * 48271 + x + 11).fmod 2147483647) c))) := b1.upd
        show tSeq _ _ _ _ (upd H1 p (.lst (rowV a (i + 1) ((t * 48271 + x + 11).fmod 2147483647) c)))
        generalize (t * 48271 + x + 11).fmod 2147483647 = t2 at hp2 hS2 b2 ⊢
        generalize upd H1 p (.lst (rowV a (i + 1) t2 c)) = H2 at hp2 hS2 b2 ⊢
        refine ⟨_, rfl, 10, 18, rfl, rfl, ⟨by decide, by decide, by decide⟩, x, _, rfl, rfl, _, rfl, ite2 (fun hx => ?_) (fun hx => ?_)⟩
        · refine ⟨_, rfl, _, rfl, x, m, rfl, rfl, m2, _, rfl, p, _, _, 3, rfl, rfl, hp2, rfl, ?_⟩
          exact ⟨_, rfl, .inl ⟨_, rfl, _, rfl, x, m, rfl, rfl, m2.1, q _ _ (fmod_in m0).1 (fmod_in m0).2 ⟨row_script hS2 hp2, i + 1, t2, _, by omega, upd_same⟩ b2.upd⟩⟩
        · exact ⟨_, rfl, .inl ⟨_, rfl, _, rfl, x, m, rfl, rfl, m2.1, q _ _ (fmod_in m0).1 (fmod_in m0).2 ⟨hS2, i + 1, t2, c, by omega, hp2⟩ b2⟩⟩
end
end Ec
set_option Elab.async false
set_option linter.all false
set_option maxRecDepth 100000
set_option maxHeartbeats 4000000
/-! _law_pick, _law_square, _law_equal. -/
namespace Ec
open PySem PySem.Spec PyProof.Rows L2
theorem rgV_upto (n : Nat) : rgV 0 ((n : Nat) : Int) = Ints (upto n) := by
  have e : (((n : Nat) : Int) - 0).toNat = n := by omega
  unfold rgV Ints upto
  rw [e, List.map_map]
  refine List.map_congr_left fun i _ => ?_
  show V.int (0 + (i : Int)) = V.int (i : Int)
  rw [Int.zero_add]
theorem ixN_of {n j : Nat} (h : j < n) : ixN n ((j : Nat) : Int) = some j := by
  unfold ixN
  rw [if_pos (by omega), if_pos (by omega), Int.toNat_natCast]
theorem But.wr {p q : Addr} {H H' : Hp} {o : HO} (b : But p H H') (n : H q = none) : But p H (L2.upd H' q o) := fun c u hc h => by
  rw [upd_ne (ne_of_none h n)]
  exact b c u hc h
theorem row_ne {K : PySem.W.Frag} {p a q : Addr} {ns ks : List Int} {H : Hp} (R : Row K p a ns H) (h : H q = some (.lst (Ints ks))) : q ≠ p := by
  obtain ⟨_, i, t, c, _, hp⟩ := R
  refine ne_of h hp fun z => ?_
  have z' : Ints ks = rowV a i t c := HO.lst.inj z
  cases ks with
  | nil => cases z'
  | cons n r => cases (List.cons.inj z').1
/-- what is left of the row, if all else stands -/
theorem Row.keep {K : PySem.W.Frag} {p a : Addr} {ns : List Int} {H H' : Hp} (R : Row K p a ns H) (b : But p H H') (h : ∃ i t c : Int, 0 ≤ i ∧ H' p = some (.lst (rowV a i t c))) : Row K p a ns H' := by
  obtain ⟨hS, i, t, c, _, hp⟩ := R
  refine ⟨?_, h⟩
  rcases hS with (hS | ⟨u, hS⟩) | hS
  · refine .inl (.inl (b _ _ (ne_of hS hp fun z => ?_) hS))
    have z' : Ints ns = rowV a i t c := HO.lst.inj z
    cases ns with
    | nil => cases z'
    | cons n r => cases (List.cons.inj z').1
  · exact .inl (.inr ⟨u, b _ _ (ne_of hS hp fun z => nomatch z) hS⟩)
  · exact .inr hS
theorem Row.made {K : PySem.W.Frag} {p a q : Addr} {ns : List Int} {H : Hp} {o : HO} (R : Row K p a ns H) (n : H q = none) : Row K p a ns (upd H q o) := R.same (same_new n)
section
variable {P : Program} {w : World} {K : PySem.W.Frag} {mg : Str → Option Value} {base : Heap}
/-! ### _law_pick -/
theorem scPick : FnScope ["_law_row", "_law_things"] ["_law_row", "_law_things"] (defScope sPick) := ⟨rfl, rfl, rfl, by decide +kernel, rfl, by decide +kernel, by decide +kernel⟩
def spPick (K : PySem.W.Frag) : Sp := fun vs H Q _ => ∃ (p a l : Addr) (ns ks : List Int), vs = [.ref p, .ref l] ∧ Row K p a ns H ∧ H l = some (.lst (Ints ks)) ∧ 0 < ks.length ∧ ks.length ≤ 1000 ∧
  ∀ (v : Int) (H' : Hp), v ∈ ks → Row K p a ns H' → But p H H' → Q (.int v) H'
theorem ok_pick {f fT : Addr} {fd fdT : FuncData} (F : Fun K "_law_pick" "_law_pick" sPick f fd) (FT : Fun K "_law_taken" "_law_taken" sTaken fT fdT) (bT : Binds K fdT ["_law_row", "_law_many"] []) (gT : mg "_law_taken" = some (.ref fT))
    (B : Bare mg) : FnOk P w K mg base CX0 2 f fd ["_law_row", "_law_things"] (spPick K) := by
  have GT : FnOk P w K mg base CX0 1 fT fdT ["_law_row", "_law_many"] (spTaken K) := ok_taken FT B
  refine F.ok scPick (fun vs H Q E h => ?_) (fun cdv A outer s H vs Q E hr h => ?_)
  · obtain ⟨p, a, l, ns, ks, rfl, _⟩ := h
    rfl
  · obtain ⟨p, a, l, ns, ks, rfl, R, hl, h0, h1, q⟩ := h
    refine ⟨_, pss_one (ps_ret (pe_ix ix_list (pv 1) (pe_call GT hr (by rfl) gT FT.kp bT .nil pass0 (pa_cons (pv 0) (pa_cons (pe_callB call_len_seq (by rfl) B.len PySem.boot_len (pa_cons (pv 1) pa_nil)) pa_nil))) (fun _ _ => rfl))), ?_⟩
    refine ⟨_, rfl, _, rfl, _, rfl, l, _, rfl, .inl (SqL.of hl), p, a, ns, _, rfl, R, by rw [ints_len]; omega, by rw [ints_len]; omega, fun v H1 v0 v1 R1 b1 => ?_⟩
    rw [ints_len] at v1
    have hv : v.toNat < ks.length := by omega
    refine ⟨l, _, v, _, rfl, rfl, SqL.of (b1 _ _ (row_ne R hl) hl), at_of (j := v.toNat) (by omega) (ints_at hv), ?_⟩
    exact q _ _ (g_mem hv) R1 b1

/-! ### _law_square -/
theorem scDraw : FnScope ["_law_row", "_law_many", "_law_found", "_law_at", "_law_other"] ["_law_row", "_law_many"] (defScope sDraw) := ⟨rfl, rfl, rfl, by decide +kernel, rfl, by decide +kernel, by decide +kernel⟩
def spDraw (K : PySem.W.Frag) : Sp := fun vs H Q _ => ∃ (p a : Addr) (ns : List Int) (n : Nat), vs = [.ref p, .int ((n : Nat) : Int)] ∧ Row K p a ns H ∧ 1 ≤ n ∧ n ≤ 30 ∧
  ∀ (t : Addr) (sq : List Int) (H' : Hp), Sq sq → sq.length = n → H' t = some (.tup (Ints sq)) → Row K p a ns H' → But p H H' → Q (.ref t) H'
theorem ok_draw {f fT : Addr} {fd fdT : FuncData} (F : Fun K "_law_square" "_law_square" sDraw f fd) (FT : Fun K "_law_taken" "_law_taken" sTaken fT fdT) (bT : Binds K fdT ["_law_row", "_law_many"] []) (gT : mg "_law_taken" = some (.ref fT))
    (B : Bare mg) : FnOk P w K mg base CX0 2 f fd ["_law_row", "_law_many"] (spDraw K) := by
  have GT : FnOk P w K mg base CX0 1 fT fdT ["_law_row", "_law_many"] (spTaken K) := ok_taken FT B
  refine F.ok scDraw (fun vs H Q E h => ?_) (fun cdv A outer s H vs Q E hr h => ?_)
  · obtain ⟨p, a, ns, n, rfl, _⟩ := h
    rfl
  · obtain ⟨p, a, ns, n, rfl, R, n1, n2, q⟩ := h
    refine ⟨_, pss_cons (ps_set (i := 2) scDraw.nd rfl (Or.inl rfl) (pe_listRg rfl (by rfl) B.list (prg_1 (by rfl) B.range (pv 1))))
      (pss_cons (ps_for PassesOwn.never rfl (pi_range1 rfl B.range (pa_cons (pe_op op_sub (pv 1) pe_int) pa_nil)) (pg_name (i := 3) scDraw.nd rfl (Or.inl rfl))
        (pss_cons (ps_set (i := 4) scDraw.nd rfl (Or.inl rfl) (pe_op op_add (pv 3) (pe_call GT hr (by rfl) gT FT.kp bT .nil pass0 (pa_cons (pv 0) (pa_cons (pe_op op_sub (pv 1) (pv 3)) pa_nil)))))
        (pss_one (ps_asg (pe_tup (pa_cons (pe_ix ix_list (pv 2) (pv 4) (fun _ _ => rfl)) (pa_cons (pe_ix ix_list (pv 2) (pv 3) (fun _ _ => rfl)) pa_nil)))
          (pg_tup rfl (pgs_cons (pg_sub (pv 2) (pv 3) set_list) (pgs_cons (pg_sub (pv 2) (pv 4) set_list) pgs_nil)))))))
      (pss_one (ps_ret (pe_callTy call_tuple_of (by rfl) B.tuple (by decide +kernel) (pa_cons (pv 2) pa_nil))))), ?_⟩
    refine ⟨_, rfl, ((n : Nat) : Int), rfl, RgOk.of_le (by omega) (by omega) (by omega) (by omega), fun l nl => ?_⟩
    rw [rgV_upto]
    have npl : p ≠ l := by
      obtain ⟨_, i, t, c, _, hp⟩ := R
      exact ne_of_none hp nl
    refine ⟨_, rfl, _, 1, rfl, rfl, _, rfl, by omega, by omega, for_range (lo := 0) (n := (((n : Nat) : Int) - 1).toNat) (fun i σ H' => ∃ (sq : List Int) (o3 o4 : Option V), σ = [some (.ref p), some (.int ((n : Nat) : Int)), some (.ref l), o3, o4] ∧
        H' l = some (.lst (Ints sq)) ∧ sq.Perm (upto n) ∧ Row K p a ns H' ∧ But p H H')
      ⟨upto n, none, none, rfl, upd_same, List.Perm.refl _, R.made nl, (But.refl p H).new nl⟩ ?_ ?_⟩
    · rintro i σ H1 hi ⟨sq, o3, o4, rfl, hl, pm, R1, b1⟩
      have len : sq.length = n := pm.length_eq.trans (upto_len n)
      -- _law_other
      refine ⟨_, rfl, _, rfl, _, rfl, _, rfl, _, _, rfl, rfl, p, a, ns, _, rfl, R1, by omega, by omega, fun v H2 v0 v1 R2 b2 => ?_⟩
      have hl2 : H2 l = some (.lst (Ints sq)) := b2 _ _ npl.symm hl
      have h1 : i < sq.length := by omega
      have h2 : i + v.toNat < sq.length := by omega
      refine ⟨_, v, rfl, rfl, ?_⟩
      -- the two items
      have e1 : (0 : Int) + (i : Int) = (i : Int) := Int.zero_add _
      have e2 : (0 : Int) + (i : Int) + v = ((i + v.toNat : Nat) : Int) := by omega
      refine ⟨_, rfl, _, rfl, l, _, _, _, rfl, rfl, SqL.of hl2, at_of e2 (ints_at h2), _, rfl, _, rfl, l, _, _, _, rfl, rfl, SqL.of hl2, at_of e1 (ints_at h1), small30 (by show 2 ≤ 1000; decide), fun t nt => ?_⟩
      have hl3 : (upd H2 t (.tup [.int (g sq (i + v.toNat)), .int (g sq i)])) l = some (.lst (Ints sq)) := by
        rw [upd_ne (ne_of_none hl2 nt)]
        exact hl2
      refine ⟨t, _, rfl, SqT.of upd_same, rfl, _, _, rfl, ⟨_, rfl, _, rfl, l, _, _, i, rfl, rfl, hl3, by rw [ints_len, e1]; exact ixN_of h1, ?_⟩⟩
      refine ⟨_, _, rfl, ⟨_, rfl, _, rfl, l, _, _, i + v.toNat, rfl, rfl, upd_same, by rw [List.length_set, ints_len, e2]; exact ixN_of h2, rfl, ?_⟩⟩
      refine ⟨(sq.set i (g sq (i + v.toNat))).set (i + v.toNat) (g sq i), _, _, rfl, ?_, (swap_perm h1 h2).trans pm, ?_, ?_⟩
      · rw [upd_same]
        show some (HO.lst (((sq.map V.int).set i (V.int (g sq (i + v.toNat)))).set (i + v.toNat) (V.int (g sq i)))) = _
        rw [← List.map_set, ← List.map_set]
      · refine R.keep ?_ ?_
        · exact (((b1.trans b2).new nt).wr nl).wr nl
        · obtain ⟨_, i', t', c', h0, hp⟩ := R2
          exact ⟨i', t', c', h0, by rw [upd_ne npl, upd_ne npl, upd_ne (ne_of_none hp nt)]; exact hp⟩
      · exact (((b1.trans b2).new nt).wr nl).wr nl
    · rintro σ H1 ⟨sq, o3, o4, rfl, hl, pm, R1, b1⟩
      obtain ⟨S, len⟩ := sq_of_perm n1 n2 pm
      refine ⟨_, rfl, l, _, rfl, .inl ⟨SqL.of hl, fun t nt => ?_⟩⟩
      exact q t sq _ S len upd_same (R1.made nt) (b1.new nt)
end
end Ec
set_option Elab.async false
set_option linter.all false
set_option maxRecDepth 100000
set_option maxHeartbeats 4000000
/-! _law_equal, first_equal, least_equal. -/
namespace Ec
open PySem PySem.Spec PyProof.Rows L2
/-- None and no equal rises, or a tuple of the least ones -/
def Ans (sq : List Int) (v : V) (H : Hp) : Prop := (v = .non ∧ Costas sq) ∨ ∃ (p : Addr) (s a m : Nat), v = .ref p ∧ H p = some (.tup (Ints [((s : Nat) : Int), ((a : Nat) : Int), ((m : Nat) : Int)])) ∧ Least sq s a m
theorem Ans.same {sq : List Int} {v : V} {H H' : Hp} (h : Ans sq v H) (s : Same H H') : Ans sq v H' := by
  rcases h with h | ⟨p, i, a, m, ev, hp, l⟩
  · exact .inl h
  · exact .inr ⟨p, i, a, m, ev, s _ _ hp, l⟩
section
variable {P : Program} {w : World} {K : PySem.W.Frag} {mg : Str → Option Value} {base : Heap}
/-! ### _law_equal -/
theorem scEqual : FnScope ["_law_square_here", "_law_many", "_law_step", "_law_at", "_law_more"] ["_law_square_here"] (defScope sEqual) := ⟨rfl, rfl, rfl, by decide +kernel, rfl, by decide +kernel, by decide +kernel⟩
def spEqual : Sp := fun vs H Q _ => ∃ (a : Addr) (sq : List Int), vs = [.ref a] ∧ H a = some (.tup (Ints sq)) ∧ Sq sq ∧ ∀ (v : V) (H' : Hp), Same H H' → Ans sq v H' → Q v H'
theorem ok_equal {f : Addr} {fd : FuncData} {k : Nat} (F : Fun K "_law_equal" "_law_equal" sEqual f fd) (B : Bare mg) : FnOk P w K mg base CX0 (k + 1) f fd ["_law_square_here"] spEqual := by
  refine F.ok scEqual (fun vs H Q E h => ?_) (fun cdv A outer s H vs Q E hr h => ?_)
  · obtain ⟨a, sq, rfl, _⟩ := h
    rfl
  · obtain ⟨a, sq, rfl, ha, S, q⟩ := h
    have h30 := S.hi
    refine ⟨_, pss_cons (ps_set (i := 1) scEqual.nd rfl (Or.inl rfl) (pe_callB call_len_seq (by rfl) B.len PySem.boot_len (pa_cons (pv 0) pa_nil)))
      (pss_cons (ps_for PassesOwn.never rfl (pi_range2 (by rfl) B.range (pa_cons pe_int (pa_cons (pv 1) pa_nil))) (pg_name (i := 2) scEqual.nd rfl (Or.inl rfl))
        (pss_one (ps_for PassesOwn.never rfl (pi_range1 rfl B.range (pa_cons (pe_op op_sub (pv 1) (pv 2)) pa_nil)) (pg_name (i := 3) scEqual.nd rfl (Or.inl rfl))
          (pss_one (ps_for PassesOwn.never rfl (pi_range2 (by rfl) B.range (pa_cons (pe_op op_add (pv 3) pe_int) (pa_cons (pe_op op_sub (pv 1) (pv 2)) pa_nil))) (pg_name (i := 4) scEqual.nd rfl (Or.inl rfl))
            (pss_one (ps_if (pt_cmpR op_eq (pe_op op_sub (pe_ix ix_tup (pv 0) (pe_op op_add (pv 3) (pv 2)) (fun _ _ => rfl)) (pe_ix ix_tup (pv 0) (pv 3) (fun _ _ => rfl)))
                (pe_op op_sub (pe_ix ix_tup (pv 0) (pe_op op_add (pv 4) (pv 2)) (fun _ _ => rfl)) (pe_ix ix_tup (pv 0) (pv 4) (fun _ _ => rfl))) (nomark _))
              (pss_one (ps_ret (pe_tup (pa_cons (pv 2) (pa_cons (pv 3) (pa_cons (pv 4) pa_nil)))))) pss_nil)))))))
      (pss_one (ps_ret pe_non))), ?_⟩
    refine ⟨_, rfl, a, _, rfl, .inr (SqT.of ha), ?_⟩
    rw [ints_len]
    refine ⟨_, rfl, 1, ((sq.length : Nat) : Int), rfl, by omega, for_range (lo := 1) (n := (((sq.length : Nat) : Int) - 1).toNat) (fun i σ H' => ∃ o2 o3 o4 : Option V, σ = [some (.ref a), some (.int ((sq.length : Nat) : Int)), o2, o3, o4] ∧ H' = H ∧
      ∀ s', s' < 1 + i → ∀ a' m', ¬ Eq3 sq s' a' m') ⟨none, none, none, rfl, rfl, fun s' hs a' m' z => by have := z.1; omega⟩ ?_ ?_⟩
    · rintro i σ H1 hi ⟨o2, o3, o4, rfl, rfl, no1⟩
      rw [show (1 : Int) + (i : Int) = ((1 + i : Nat) : Int) by omega]
      have hs1 : 1 ≤ 1 + i ∧ 1 + i < sq.length := by omega
      generalize es : 1 + i = s at hs1 no1 ⊢
      refine ⟨_, rfl, _, rfl, _, _, rfl, rfl, _, rfl, by omega, by omega, for_range (lo := 0) (n := (((sq.length : Nat) : Int) - ((s : Nat) : Int)).toNat) (fun j σ H' => ∃ o3 o4 : Option V, σ = [some (.ref a), some (.int ((sq.length : Nat) : Int)), some (.int ((s : Nat) : Int)), o3, o4] ∧ H' = H1 ∧
        ∀ a', a' < j → ∀ m', ¬ Eq3 sq s a' m') ⟨o3, o4, rfl, rfl, fun a' h => absurd h (Nat.not_lt_zero _)⟩ ?_ ?_⟩
      · rintro j σ H2 hj ⟨o3, o4, rfl, rfl, no2⟩
        rw [show (0 : Int) + (j : Int) = ((j : Nat) : Int) by omega]
        refine ⟨_, rfl, _, 1, rfl, rfl, _, rfl, _, rfl, _, _, rfl, rfl, _, _, rfl, by omega, for_range (lo := ((j : Nat) : Int) + 1) (n := (((sq.length : Nat) : Int) - ((s : Nat) : Int) - (((j : Nat) : Int) + 1)).toNat)
          (fun k σ H' => ∃ o4 : Option V, σ = [some (.ref a), some (.int ((sq.length : Nat) : Int)), some (.int ((s : Nat) : Int)), some (.int ((j : Nat) : Int)), o4] ∧ H' = H2 ∧
          ∀ m', m' < j + 1 + k → ¬ Eq3 sq s j m') ⟨o4, rfl, rfl, fun m' h z => by have := z.2.1; omega⟩ ?_ ?_⟩
        · rintro k σ H3 hk ⟨o4, rfl, rfl, no3⟩
          rw [show ((j : Nat) : Int) + 1 + (k : Int) = ((j + 1 + k : Nat) : Int) by omega]
          have hm : j < j + 1 + k ∧ j + 1 + k + s < sq.length := by omega
          generalize em : j + 1 + k = m at hm no3 ⊢
          refine ⟨_, rfl, _, rfl, _, rfl, _, _, rfl, rfl, a, _, _, _, rfl, rfl, SqT.of ha, at_of (j := j + s) (by omega) (ints_at (by omega)), _, rfl, _, rfl, a, _, _, _, rfl, rfl, SqT.of ha, at_of (j := j) rfl (ints_at (by omega)), _, _, rfl, rfl, ?_⟩
          refine ⟨_, rfl, _, rfl, _, rfl, _, _, rfl, rfl, a, _, _, _, rfl, rfl, SqT.of ha, at_of (j := m + s) (by omega) (ints_at (by omega)), _, rfl, _, rfl, a, _, _, _, rfl, rfl, SqT.of ha, at_of (j := m) rfl (ints_at (by omega)), _, _, rfl, rfl, rfl, _, rfl, ite2 (fun e => ?_) (fun e => ?_)⟩
          · have e' : rise sq s j = rise sq s m := V.int.inj (of_decide_eq_true e)
            refine ⟨_, rfl, _, rfl, _, rfl, small30 (by show 3 ≤ 1000; decide), fun t nt => ?_⟩
            exact q _ _ (same_new nt) (.inr ⟨t, s, j, m, rfl, upd_same, ⟨hs1.1, hm.1, hm.2, e'⟩, no1, no2, no3⟩)
          · refine ⟨_, rfl, rfl, fun m' h z => ?_⟩
            by_cases hmm : m' = m
            · subst hmm
              exact e (decide_eq_true (congrArg V.int z.2.2.2))
            · exact no3 m' (by omega) z
        · rintro σ H3 ⟨o4, rfl, rfl, no3⟩
          refine ⟨_, _, rfl, rfl, fun a' h m' z => ?_⟩
          by_cases haj : a' = j
          · subst haj
            refine no3 m' ?_ z
            have := z.2.2.1
            omega
          · exact no2 a' (by omega) m' z
      · rintro σ H2 ⟨o3, o4, rfl, rfl, no2⟩
        refine ⟨_, _, _, rfl, rfl, fun s' h a' m' z => ?_⟩
        by_cases hss : s' = s
        · subst hss
          refine no2 a' ?_ m' z
          have := z.2.1
          have := z.2.2.1
          omega
        · exact no1 s' (by omega) a' m' z
    · rintro σ H1 ⟨o2, o3, o4, rfl, rfl, no1⟩
      refine q _ _ (Same.refl _) (.inl ⟨rfl, fun s' a' m' z => no1 s' ?_ a' m' z⟩)
      have := z.1
      have := z.2.2.1
      omega
end
end Ec
set_option Elab.async false
set_option linter.all false
set_option maxRecDepth 100000
set_option maxHeartbeats 4000000
/-! least_equal, first_equal. -/
namespace Ec
open PySem PySem.Spec PyProof.Rows L2
theorem cut_from {xs : List V} {k : Nat} (h : k ≤ xs.length) : cutV xs (some ((k : Nat) : Int)) none = xs.drop k := by
  unfold cutV
  rw [HT.sIx_nat, HT.sIx_none, Nat.min_eq_left h]
  exact List.take_of_length_le (by rw [List.length_drop]; exact Nat.le_refl _)
theorem flat_ints : ∀ ks : List Int, (Ints ks).all flatV = true
  | [] => rfl
  | k :: r => by
    show (flatV (.int k) && (Ints r).all flatV) = true
    rw [flat_ints r]
    rfl
theorem in_ints {k : Int} {ks : List Int} : inV (.int k) (Ints ks) = true ↔ k ∈ ks := by
  unfold inV
  rw [List.any_eq_true]
  constructor
  · rintro ⟨y, hy, e⟩
    obtain ⟨i, hi, rfl⟩ := List.mem_map.mp hy
    have e' : i = k := eq_of_beq (show (i == k) = true from e)
    exact e' ▸ hi
  · exact fun h => ⟨.int k, List.mem_map.mpr ⟨k, h, rfl⟩, beq_self_eq_true k⟩
theorem first_from {ks : List Int} {k : Int} {f : Nat} : ∀ (d j : Nat), j = f + d → ks[j]? = some k → ∃ j', f ≤ j' ∧ ks[j']? = some k ∧ ∀ m, f ≤ m → m < j' → ks[m]? ≠ some k := by
  intro d
  induction d using Nat.strongRecOn with
  | _ d ih =>
    intro j e h
    by_cases z : ∃ m, f ≤ m ∧ m < j ∧ ks[m]? = some k
    · obtain ⟨m, h1, h2, h3⟩ := z
      exact ih (m - f) (by omega) m (by omega) h3
    · exact ⟨j, by omega, h, fun m h1 h2 h3 => z ⟨m, h1, h2, h3⟩⟩
/-- the first k rises of a step -/
def rises (sq : List Int) (s k : Nat) : List Int := (List.range k).map (rise sq s)
theorem rises_len (sq : List Int) (s k : Nat) : (rises sq s k).length = k := by
  unfold rises
  rw [List.length_map, List.length_range]
theorem rises_at {sq : List Int} {s k m : Nat} (h : m < k) : (rises sq s k)[m]? = some (rise sq s m) := by
  unfold rises
  rw [List.getElem?_map, List.getElem?_range h]
  rfl
theorem rises_g {sq : List Int} {s k m : Nat} (h : m < k) : g (rises sq s k) m = rise sq s m :=
  Option.some.inj ((g_at (by rw [rises_len]; exact h)).symm.trans (rises_at h))
theorem rises_succ (sq : List Int) (s k : Nat) : Ints (rises sq s (k + 1)) = Ints (rises sq s k) ++ [.int (rise sq s k)] := by
  unfold rises
  rw [List.range_succ, List.map_append]
  show (List.map _ _ ++ List.map _ [k]).map V.int = _
  rw [List.map_append]
  rfl
section
variable {P : Program} {w : World} {K : PySem.W.Frag} {mg : Str → Option Value} {base : Heap}
/-! ### least_equal -/
theorem scLeast : FnScope ["square", "step", "many", "at", "rises"] ["square", "step"] (defScope sLeast) := ⟨rfl, rfl, rfl, by decide +kernel, rfl, by decide +kernel, by decide +kernel⟩
def spLeast : Sp := fun vs H Q _ => ∃ (a : Addr) (sq : List Int) (s : Nat), vs = [.ref a, .int ((s : Nat) : Int)] ∧ H a = some (.tup (Ints sq)) ∧ Sq sq ∧ 1 ≤ s ∧ s < sq.length ∧ (∃ a' m', Eq3 sq s a' m') ∧
  ∀ (p : Addr) (j m : Nat) (H' : Hp), Same H H' → H' p = some (.tup (Ints [((s : Nat) : Int), ((j : Nat) : Int), ((m : Nat) : Int)])) → Eq3 sq s j m → (∀ j', j' < j → ∀ m', ¬ Eq3 sq s j' m') → (∀ m', m' < m → ¬ Eq3 sq s j m') → Q (.ref p) H'
theorem ok_least {f : Addr} {fd : FuncData} {k : Nat} (F : Fun K "least_equal" "least_equal" sLeast f fd) (B : Bare mg) : FnOk P w K mg base CX0 (k + 1) f fd ["square", "step"] spLeast := by
  refine F.ok scLeast (fun vs H Q E h => ?_) (fun cdv A outer s H vs Q E hr h => ?_)
  · obtain ⟨a, sq, s, rfl, _⟩ := h
    rfl
  · obtain ⟨a, sq, s, rfl, ha, S, s1, s2, pair, q⟩ := h
    have h30 := S.hi
    refine ⟨_, pss_cons (ps_set (i := 2) scLeast.nd rfl (Or.inl rfl) (pe_op op_sub (pe_callB call_len_seq (by rfl) B.len PySem.boot_len (pa_cons (pv 0) pa_nil)) (pv 1)))
      (pss_cons (ps_setLc (i := 4) (own := [("at", 3)]) (g := gName 3) (tt := tYes) rfl scLeast.nd rfl rfl (sw_true rfl rfl rfl (by decide +kernel)) (pi_range1 rfl B.range (pa_cons (pv 2) pa_nil))
        (blkOk_by (N := ["square", "step", "many", "at", "rises"]) (sc := defScope sLeast) (by decide +kernel)) (fun _ _ _ _ _ => pg_name (i := 3) scLeast.nd rfl (Or.inl rfl)) (fun _ _ _ _ _ => pts_nil)
        (fun _ _ _ _ _ => pe_op op_sub (pe_ix (r := rIxT K) ix_tup (pv 0) (pe_op op_add (pv 3) (pv 1)) (fun _ _ => rfl)) (pe_ix (r := rIxT K) ix_tup (pv 0) (pv 3) (fun _ _ => rfl))))
      (pss_cons (ps_for PassesOwn.never rfl (pi_range1 rfl B.range (pa_cons (pv 2) pa_nil)) (pg_name (i := 3) scLeast.nd rfl (Or.inl rfl))
        (pss_one (ps_if (pt_cmpR op_in_seq (pe_ix ix_list (pv 4) (pv 3) (fun _ _ => rfl)) (pe_slice sl_list (pv 4) (po_some (pe_op op_add (pv 3) pe_int)) po_none) (by rfl))
          (pss_one (ps_ret (pe_tup (pa_cons (pv 1) (pa_cons (pv 3) (pa_cons (pe_bm PySem.F.plainAttrs_list PySem.F.slot_list_index PySem.F.type_list_index mt_indexFrom (pv 4)
            (pa_cons (pe_ix ix_list (pv 4) (pv 3) (fun _ _ => rfl)) (pa_cons (pe_op op_add (pv 3) pe_int) pa_nil))) pa_nil)))))) pss_nil)))
      (pss_one (ps_ret pe_non)))), ?_⟩
    refine ⟨_, rfl, a, _, rfl, .inr (SqT.of ha), _, rfl, _, _, rfl, rfl, ?_⟩
    rw [ints_len]
    have hn : (((sq.length : Nat) : Int) - ((s : Nat) : Int)).toNat = sq.length - s := by omega
    refine ⟨_, rfl, _, rfl, by omega, by omega, fun D nD => lc_range (lo := 0) (n := (((sq.length : Nat) : Int) - ((s : Nat) : Int)).toNat) (fun i H' => H' D = some (.lst (Ints (rises sq s i))) ∧ Same H H')
      ⟨upd_same, same_new nD⟩ ?_ ?_⟩
    · rintro i H1 hi ⟨hD, sm⟩
      have ha1 : SqT K H1 a (Ints sq) := SqT.of (sm _ _ ha)
      rw [show (0 : Int) + (i : Int) = ((i : Nat) : Int) by omega]
      refine ⟨rfl, _, rfl, _, rfl, _, rfl, _, _, rfl, rfl, a, _, _, _, rfl, rfl, ha1, at_of (j := i + s) (by omega) (ints_at (by omega)), _, rfl, _, rfl, a, _, _, _, rfl, rfl, ha1, at_of (j := i) rfl (ints_at (by omega)), _, _, rfl, rfl, _, hD, ?_, ?_⟩
      · rw [ints_len, rises_len]
        exact small1000 (by omega)
      · refine ⟨?_, Same.wr sm nD⟩
        rw [upd_same, rises_succ]
        rfl
    · rintro H1 ⟨hD, sm⟩
      rw [hn] at hD
      refine ⟨_, rfl, _, rfl, by omega, by omega, for_range (lo := 0) (n := (((sq.length : Nat) : Int) - ((s : Nat) : Int)).toNat) (fun j σ H' => ∃ o3 : Option V, σ = [some (.ref a), some (.int ((s : Nat) : Int)), some (.int (((sq.length : Nat) : Int) - ((s : Nat) : Int))), o3, some (.ref D)] ∧
        Same H H' ∧ H' D = some (.lst (Ints (rises sq s (sq.length - s)))) ∧ ∀ j', j' < j → ∀ m', ¬ Eq3 sq s j' m') ⟨_, rfl, sm, hD, fun j' h => absurd h (Nat.not_lt_zero _)⟩ ?_ ?_⟩
      · rintro j σ H2 hj ⟨o3, rfl, sm2, hD2, no⟩
        rw [hn] at hj
        rw [show (0 : Int) + (j : Int) = ((j : Nat) : Int) by omega]
        have hr0 : (Ints (rises sq s (sq.length - s)))[j]? = some (.int (rise sq s j)) := by
          rw [← rises_g (k := sq.length - s) hj]
          exact ints_at (by rw [rises_len]; exact hj)
        have hlen : (Ints (rises sq s (sq.length - s))).length = sq.length - s := by rw [ints_len, rises_len]
        refine ⟨_, rfl, _, rfl, D, _, _, _, rfl, rfl, SqL.of hD2, at_of (j := j) rfl hr0, _, rfl, _, rfl, _, 1, rfl, rfl, _, rfl, D, _, rfl, SqL.of hD2, fun t nt => ⟨t, _, rfl, .inl (SqL.of upd_same), rfl, ?_, ?_⟩⟩
        all_goals rw [show ((j : Nat) : Int) + 1 = ((j + 1 : Nat) : Int) by omega, cut_from (by omega)]
        · exact List.all_eq_true.mpr fun x hx => List.all_eq_true.mp (flat_ints _) x (List.mem_of_mem_drop hx)
        · have hD3 : (upd H2 t (.lst ((Ints (rises sq s (sq.length - s))).drop (j + 1)))) D = some (.lst (Ints (rises sq s (sq.length - s)))) := by
            rw [upd_ne (ne_of_none hD2 nt)]
            exact hD2
          have sm3 : Same H (upd H2 t (.lst ((Ints (rises sq s (sq.length - s))).drop (j + 1)))) := Same.new sm2 nt
          have mem : inV (.int (rise sq s j)) ((Ints (rises sq s (sq.length - s))).drop (j + 1)) = true ↔ ∃ m, j + 1 ≤ m ∧ (rises sq s (sq.length - s))[m]? = some (rise sq s j) := by
            rw [← List.map_drop, in_ints]
            constructor
            · intro h
              obtain ⟨i, hi⟩ := List.mem_iff_getElem?.mp h
              rw [List.getElem?_drop] at hi
              exact ⟨j + 1 + i, by omega, hi⟩
            · rintro ⟨m, h1, h2⟩
              refine List.mem_iff_getElem?.mpr ⟨m - (j + 1), ?_⟩
              rw [List.getElem?_drop, show j + 1 + (m - (j + 1)) = m by omega]
              exact h2
          have at_m : ∀ m, (rises sq s (sq.length - s))[m]? = some (rise sq s j) ↔ m < sq.length - s ∧ rise sq s m = rise sq s j := fun m => by
            by_cases hm : m < sq.length - s
            · rw [rises_at hm]
              exact ⟨fun e => ⟨hm, Option.some.inj e⟩, fun e => congrArg some e.2⟩
            · rw [List.getElem?_eq_none (by rw [rises_len]; omega)]
              exact ⟨fun e => (nomatch e), fun e => absurd e.1 hm⟩
          generalize upd H2 t (.lst ((Ints (rises sq s (sq.length - s))).drop (j + 1))) = H3 at hD3 sm3 ⊢
          refine ⟨_, rfl, ite2 (fun e => ?_) (fun e => ?_)⟩
          · obtain ⟨m0, h1, h2⟩ := mem.mp e
            obtain ⟨m, hm1, hm2, hm3⟩ := first_from (f := j + 1) (m0 - (j + 1)) m0 (by omega) h2
            obtain ⟨hm4, hm5⟩ := (at_m m).mp hm2
            refine ⟨_, rfl, _, rfl, _, rfl, .inl ⟨rfl, _, SqL.of hD3⟩, _, rfl, _, rfl, D, _, _, _, rfl, rfl, SqL.of hD3, at_of (j := j) rfl hr0, _, rfl, _, 1, rfl, rfl, D, rises sq s (sq.length - s), rise sq s j, j + 1, m, rfl, rfl, SqL.of hD3, hm1, hm2, hm3, ?_⟩
            refine ⟨small30 (by show 3 ≤ 1000; decide), fun u nu => ?_⟩
            refine q u j m _ (Same.new sm3 nu) upd_same ⟨s1, by omega, by omega, hm5.symm⟩ no fun m' h z => ?_
            by_cases hj1 : j + 1 ≤ m'
            · refine hm3 m' hj1 h ((at_m m').mpr ⟨?_, z.2.2.2.symm⟩)
              have := z.2.2.1
              omega
            · have := z.2.1
              omega
          · refine ⟨_, rfl, sm3, hD3, fun j' h m' z => ?_⟩
            by_cases hjj : j' = j
            · subst hjj
              refine e (mem.mpr ⟨m', z.2.1, (at_m m').mpr ⟨?_, z.2.2.2.symm⟩⟩)
              have := z.2.2.1
              omega
            · exact no j' (by omega) m' z
      · rintro σ H2 ⟨o3, rfl, sm2, hD2, no⟩
        obtain ⟨a', m', z⟩ := pair
        refine absurd z (no a' ?_ m')
        have := z.2.1
        have := z.2.2.1
        omega
end
end Ec
set_option Elab.async false
set_option linter.all false
set_option maxRecDepth 100000
set_option maxHeartbeats 4000000
/-! first_equal, need_square, equal_steps, is_costas. -/
namespace Ec
open PySem PySem.Spec PyProof.Rows L2
section
variable {P : Program} {w : World} {K : PySem.W.Frag} {mg : Str → Option Value} {base : Heap}
/-! ### first_equal -/
theorem scFirst : FnScope ["square", "step", "known", "at", "rise"] ["square"] (defScope sFirst) := ⟨rfl, rfl, rfl, by decide +kernel, rfl, by decide +kernel, by decide +kernel⟩
theorem ok_first {f fL : Addr} {fd fdL : FuncData} (F : Fun K "first_equal" "first_equal" sFirst f fd) (FL : Fun K "least_equal" "least_equal" sLeast fL fdL) (bL : Binds K fdL ["square", "step"] []) (gL : mg "least_equal" = some (.ref fL))
    (B : Bare mg) : FnOk P w K mg base CX0 2 f fd ["square"] spEqual := by
  have GL : FnOk P w K mg base CX0 1 fL fdL ["square", "step"] spLeast := ok_least FL B
  refine F.ok scFirst (fun vs H Q E h => ?_) (fun cdv A outer s H vs Q E hr h => ?_)
  · obtain ⟨a, sq, rfl, _⟩ := h
    rfl
  · obtain ⟨a, sq, rfl, ha, S, q⟩ := h
    have h30 := S.hi
    have hu := hu_of hr
    refine ⟨_, pss_cons (ps_for PassesOwn.never rfl (pi_range2 (by rfl) B.range (pa_cons pe_int (pa_cons (pe_callB call_len_seq (by rfl) B.len PySem.boot_len (pa_cons (pv 0) pa_nil)) pa_nil))) (pg_name (i := 1) scFirst.nd rfl (Or.inl rfl))
        (pss_cons (ps_set (i := 2) scFirst.nd rfl (Or.inl rfl) pe_dnewK)
        (pss_one (ps_for PassesOwn.never rfl (pi_range1 rfl B.range (pa_cons (pe_op op_sub (pe_callB call_len_seq (by rfl) B.len PySem.boot_len (pa_cons (pv 0) pa_nil)) (pv 1)) pa_nil)) (pg_name (i := 3) scFirst.nd rfl (Or.inl rfl))
          (pss_cons (ps_set (i := 4) scFirst.nd rfl (Or.inl rfl) (pe_op op_sub (pe_ix ix_tup (pv 0) (pe_op op_add (pv 3) (pv 1)) (fun _ _ => rfl)) (pe_ix ix_tup (pv 0) (pv 3) (fun _ _ => rfl))))
          (pss_cons (ps_if (pt_cmp (pc_din hu (pv 4) (pv 2))) (pss_one (ps_ret (pe_call GL (hr.mono (by decide)) (by rfl) gL FL.kp bL .nil pass0 (pa_cons (pv 0) (pa_cons (pv 1) pa_nil))))) pss_nil)
          (pss_one (ps_dput hu (pv 2) (pv 4) (pv 3) rfl))))))))
      (pss_one (ps_ret pe_non)), ?_⟩
    refine ⟨_, rfl, a, _, rfl, .inr (SqT.of ha), 1, _, rfl, ?_⟩
    rw [ints_len]
    refine ⟨by omega, for_range (lo := 1) (n := (((sq.length : Nat) : Int) - 1).toNat) (fun i σ H' => ∃ o1 o2 o3 o4 : Option V, σ = [some (.ref a), o1, o2, o3, o4] ∧ Same H H' ∧
      ∀ s', s' < 1 + i → ∀ a' m', ¬ Eq3 sq s' a' m') ⟨none, none, none, none, rfl, Same.refl _, fun s' hs a' m' z => by have := z.1; omega⟩ ?_ ?_⟩
    · rintro i σ H1 hi ⟨o1, o2, o3, o4, rfl, sm1, no1⟩
      rw [show (1 : Int) + (i : Int) = ((1 + i : Nat) : Int) by omega]
      have hs1 : 1 ≤ 1 + i ∧ 1 + i < sq.length := by omega
      generalize es : 1 + i = s at hs1 no1 ⊢
      refine fun d nd => ?_
      have sm2 : Same H (upd H1 d (.dK [])) := Same.new sm1 nd
      have nd0 : H d = none := Same.free sm1 nd
      have hd : (upd H1 d (.dK [])) d = some (.dK []) := upd_same
      generalize upd H1 d (.dK []) = H2 at sm2 hd ⊢
      refine ⟨_, rfl, a, _, rfl, .inr (SqT.of (sm2 _ _ ha)), ?_⟩
      rw [ints_len]
      refine ⟨_, rfl, _, _, rfl, rfl, _, rfl, by omega, by omega, for_range (lo := 0) (n := (((sq.length : Nat) : Int) - ((s : Nat) : Int)).toNat) (fun j σ H' => ∃ (o3 o4 : Option V) (kvs : List (Key × V)), σ = [some (.ref a), some (.int ((s : Nat) : Int)), some (.ref d), o3, o4] ∧
        Same H H' ∧ H' d = some (.dK kvs) ∧ kvs.length ≤ j ∧ (∀ r : Int, (valV kvs (Sum.inl r)).isSome = true ↔ ∃ a', a' < j ∧ rise sq s a' = r) ∧ ∀ a' m', m' < j → ¬ Eq3 sq s a' m')
        ⟨o3, o4, [], rfl, sm2, hd, Nat.le_refl _, fun r => ⟨fun e => (nomatch e), fun ⟨a', h, _⟩ => absurd h (Nat.not_lt_zero _)⟩, fun a' m' h => absurd h (Nat.not_lt_zero _)⟩ ?_ ?_⟩
      · rintro j σ H3 hj ⟨o3, o4, kvs, rfl, sm3, hd3, hl, keys, no2⟩
        rw [show (0 : Int) + (j : Int) = ((j : Nat) : Int) by omega]
        have ha3 := SqT.of (K := K) (sm3 _ _ ha)
        refine ⟨_, rfl, _, rfl, _, rfl, _, _, rfl, rfl, a, _, _, _, rfl, rfl, ha3, at_of (j := j + s) (by omega) (ints_at (by omega)), _, rfl, _, rfl, a, _, _, _, rfl, rfl, ha3, at_of (j := j) rfl (ints_at (by omega)), _, _, rfl, rfl, ?_⟩
        refine ⟨_, rfl, _, rfl, d, _, rfl, DGet.k (k := Sum.inl (rise sq s j)) hd3, _, rfl, ite2 (fun e => ?_) (fun e => ?_)⟩
        · obtain ⟨a', h1, h2⟩ := (keys _).mp e
          refine ⟨_, rfl, _, rfl, a, sq, s, rfl, sm3 _ _ ha, S, hs1.1, hs1.2, ⟨a', j, hs1.1, h1, by omega, h2⟩, fun p j' m H4 sm4 hp z na nm => ?_⟩
          exact q _ _ (sm3.trans sm4) (.inr ⟨p, s, j', m, rfl, hp, z, no1, na, nm⟩)
        · refine ⟨_, rfl, _, rfl, _, rfl, d, _, rfl, DPut.k (k := Sum.inl (rise sq s j)) hd3 (small1000 (by omega)), ?_⟩
          refine ⟨_, _, _, rfl, Same.wr sm3 nd0, upd_same, ?_, fun r => ?_, fun a' m' h z => ?_⟩
          · have := length_putK kvs (Sum.inl (rise sq s j)) (V.int ((j : Nat) : Int))
            omega
          · rw [valV_put]
            constructor
            · intro h
              by_cases er : (Sum.inl r : Key) = Sum.inl (rise sq s j)
              · exact ⟨j, by omega, (Sum.inl.inj er).symm⟩
              · rw [if_neg er] at h
                obtain ⟨a', h1, h2⟩ := (keys r).mp h
                exact ⟨a', by omega, h2⟩
            · rintro ⟨a', h1, h2⟩
              by_cases er : (Sum.inl r : Key) = Sum.inl (rise sq s j)
              · rw [if_pos er]
                rfl
              · rw [if_neg er]
                refine (keys r).mpr ⟨a', ?_, h2⟩
                have : a' ≠ j := fun z => er (by rw [← h2, z])
                omega
          · by_cases hm : m' = j
            · subst hm
              exact e ((keys _).mpr ⟨a', z.2.1, z.2.2.2⟩)
            · exact no2 a' m' (by omega) z
      · rintro σ H3 ⟨o3, o4, kvs, rfl, sm3, hd3, hl, keys, no2⟩
        refine ⟨_, _, _, _, rfl, sm3, fun s' h a' m' z => ?_⟩
        by_cases hss : s' = s
        · subst hss
          refine no2 a' m' ?_ z
          have := z.2.2.1
          omega
        · exact no1 s' (by omega) a' m' z
    · rintro σ H1 ⟨o1, o2, o3, o4, rfl, sm1, no1⟩
      refine q _ _ sm1 (.inl ⟨rfl, fun s' a' m' z => no1 s' ?_ a' m' z⟩)
      have := z.1
      have := z.2.2.1
      omega
end
end Ec
set_option Elab.async false
set_option linter.all false
set_option maxRecDepth 100000
set_option maxHeartbeats 4000000
/-! need_square, equal_steps, is_costas. -/
namespace Ec
open PySem PySem.Spec PyProof.Rows L2
abbrev rLen (K : PySem.W.Frag) := Evl.rLenS K
theorem call_lenS {X : Cx} : CallR X (.builtin "len") (rLen X.K) := call_len_seq
theorem all_true (n : Nat) : (List.replicate n true).all id = true := List.all_eq_true.mpr fun b h => (List.mem_replicate.mp h).2
section
variable {P : Program} {w : World} {K : PySem.W.Frag} {mg : Str → Option Value} {base : Heap}
/-! ### need_square -/
theorem scNeed : FnScope ["value", "entry"] ["value"] (defScope sNeed) := ⟨rfl, rfl, rfl, by decide +kernel, rfl, by decide +kernel, by decide +kernel⟩
def spNeed : Sp := fun vs H Q _ => ∃ (a : Addr) (sq : List Int), vs = [.ref a] ∧ H a = some (.tup (Ints sq)) ∧ Sq sq ∧ ∀ H' : Hp, Same H H' → Q .non H'
theorem tup_tup {K : PySem.W.Frag} : PySem.W.kitOne K (.type "tuple") (.type "tuple") = some true := kit_ty (by decide +kernel)
theorem ok_need {f fI : Addr} {fd fdI : FuncData} {tM : Tok} (F : Fun K "need_square" "need_square" sNeed f fd) (GI : FnOk P w K mg base CX0 2 fI fdI ["value", "least", "most"] spIsIn) (kI : PySem.W.keepIn K (.ref fI) = true)
    (bI : Binds K fdI ["value", "least", "most"] []) (gI : mg "is_in" = some (.ref fI)) (gM : mg "MOST_SQUARE" = some (.int 30 tM)) (B : Bare mg) : FnOk P w K mg base CX0 3 f fd ["value"] spNeed := by
  refine F.ok scNeed (fun vs H Q E h => ?_) (fun cdv A outer s H vs Q E hr h => ?_)
  · obtain ⟨a, sq, rfl, _⟩ := h
    rfl
  · obtain ⟨a, sq, rfl, ha, S, q⟩ := h
    have h30 := S.hi
    have h1 := S.lo
    refine ⟨_, pss_cons (ps_if (PW.pt (pw_or (pt_not (pt_val (pe_callB call_isi (by rfl) B.isi (by decide +kernel) (pa_cons (pv 0) (pa_cons (pe_bltn (v := .ty "tuple") (by rfl) B.tuple (by decide +kernel) rfl) pa_nil)))))
          (pw_or1 (pt_not (pt_chain op_le op_le pe_int (pe_callB call_lenS (by rfl) B.len PySem.boot_len (pa_cons (pv 0) pa_nil)) (pe_glob (v := .int 30) (by rfl) gM ⟨_, rfl⟩)))))) pss_never pss_nil)
      (pss_one (ps_if (PW.pt (pw_or (pt_not (pt_val (pe_callB (cr_all rfl) (by rfl) B.all (by decide +kernel) (pa_cons (pe_lc (own := [("entry", 1)]) (g := gName 1) (tt := tYes) rfl scNeed.nd (pi_tup (pv 0))
            (blkOk_by (N := ["value", "entry"]) (sc := defScope sNeed) (by decide +kernel)) (fun _ _ _ _ _ => pg_name (i := 1) scNeed.nd rfl (Or.inl rfl)) (fun _ _ _ _ _ => pts_nil)
            (fun _ _ _ _ _ => pe_call (E := E0) GI hr (by rfl) gI kI bI .nil pass0 (pa_cons (pv 1) (pa_cons pe_int (pa_cons (pe_op op_sub (pe_callB (r := rLen K) call_lenS (by rfl) B.len PySem.boot_len (pa_cons (pv 0) pa_nil)) pe_int) pa_nil)))))
            pa_nil))))
          (pw_or1 (pt_cmpR op_ne (pe_distinct (by rfl) B.len (by rfl) B.set (pv 0)) (pe_callB call_lenS (by rfl) B.len PySem.boot_len (pa_cons (pv 0) pa_nil)) (nomark _))))) pss_never pss_nil)), ?_⟩
    refine ⟨_, rfl, .ref a, _, _, _, true, rfl, .ty "tuple", .base (.tup ha), tup_tup, true, rfl, ?_⟩
    refine iteF ⟨_, rfl, a, _, rfl, .inr (SqT.of ha), 1, _, rfl, rfl, true, ?_, iteT ⟨_, _, rfl, rfl, true, ?_, iteF ?_⟩⟩
    · rw [ints_len]
      exact congrArg V.bl (decide_eq_true (by omega))
    · rw [ints_len]
      exact congrArg V.bl (decide_eq_true (by omega))
    refine ⟨_, rfl, a, rfl, ⟨_, SqT.of ha⟩, fun D nD => lc_tup (K := K) (a := a) (xs := Ints sq) (fun i H' => H' D = some (.lst ((List.replicate i true).map V.bl)) ∧ Same H H') ⟨upd_same, same_new nD⟩ (fun i H' _ p => SqT.of (p.2 _ _ ha)) ?_ ?_⟩
    · rintro i x H1 hx ⟨hD, sm⟩
      obtain ⟨e, he, rfl⟩ := List.mem_map.mp (List.mem_of_getElem? hx)
      obtain ⟨b1, b2⟩ := S.bd e he
      have hi : i < sq.length := by
        have := (List.getElem?_eq_some_iff.mp hx).1
        rwa [ints_len] at this
      refine ⟨rfl, _, rfl, _, rfl, a, _, rfl, .inr (SqT.of (sm _ _ ha)), _, 1, rfl, rfl, e, 0, _, rfl, b1, ?_, _, hD, ?_, ?_, Same.wr sm nD⟩
      · show e ≤ (((Ints sq).length : Nat) : Int) - 1
        rw [ints_len]
        omega
      · rw [List.length_map, List.length_replicate]
        exact small1000 (by omega)
      · rw [upd_same, List.replicate_succ', List.map_append]
        rfl
    · rintro H1 ⟨hD, sm⟩
      refine ⟨D, _, rfl, SqL.of hD, true, congrArg V.bl (all_true _), ?_⟩
      refine iteF ⟨_, rfl, a, sq, rfl, SqT.of (sm _ _ ha), S.nd, by omega, _, rfl, a, _, rfl, .inr (SqT.of (sm _ _ ha)), rfl, false, ?_, iteF (q _ sm)⟩
      rw [ints_len]
      exact congrArg V.bl (by rw [decide_eq_true rfl]; rfl)
/-! ### equal_steps, is_costas -/
theorem scSteps : FnScope ["square"] ["square"] (defScope sSteps) := ⟨rfl, rfl, rfl, by decide +kernel, rfl, by decide +kernel, by decide +kernel⟩
theorem scCostas : FnScope ["square"] ["square"] (defScope sCostas) := ⟨rfl, rfl, rfl, by decide +kernel, rfl, by decide +kernel, by decide +kernel⟩
theorem ok_steps {f fN fF : Addr} {fd fdN fdF : FuncData} (F : Fun K "equal_steps" "equal_steps" sSteps f fd) (GN : FnOk P w K mg base CX0 3 fN fdN ["value"] spNeed) (kN : PySem.W.keepIn K (.ref fN) = true) (bN : Binds K fdN ["value"] []) (gN : mg "need_square" = some (.ref fN))
    (GF : FnOk P w K mg base CX0 2 fF fdF ["square"] spEqual) (kF : PySem.W.keepIn K (.ref fF) = true) (bF : Binds K fdF ["square"] []) (gF : mg "first_equal" = some (.ref fF)) : FnOk P w K mg base CX0 4 f fd ["square"] spEqual := by
  refine F.ok scSteps (fun vs H Q E h => ?_) (fun cdv A outer s H vs Q E hr h => ?_)
  · obtain ⟨a, sq, rfl, _⟩ := h
    rfl
  · obtain ⟨a, sq, rfl, ha, S, q⟩ := h
    refine ⟨_, pss_cons (ps_expr (pe_call GN hr (by rfl) gN kN bN .nil pass0 (pa_cons (pv 0) pa_nil))) (pss_one (ps_ret (pe_call GF (hr.mono (by decide)) (by rfl) gF kF bF .nil pass0 (pa_cons (pv 0) pa_nil)))), ?_⟩
    refine ⟨_, rfl, a, sq, rfl, ha, S, fun H1 sm => ?_⟩
    exact ⟨_, rfl, a, sq, rfl, sm _ _ ha, S, fun v H2 sm2 an => q v H2 (sm.trans sm2) an⟩
def spCostas : Sp := fun vs H Q _ => ∃ (a : Addr) (sq : List Int), vs = [.ref a] ∧ H a = some (.tup (Ints sq)) ∧ Sq sq ∧ ∀ (b : Bool) (H' : Hp), Same H H' → (b = true ↔ Costas sq) → Q (.bl b) H'
theorem Ans.none_iff {sq : List Int} {v : V} {H : Hp} (h : Ans sq v H) : decide (v = .non) = true ↔ Costas sq := by
  rcases h with ⟨rfl, c⟩ | ⟨p, s, a, m, rfl, _, l⟩
  · exact ⟨fun _ => c, fun _ => rfl⟩
  · exact ⟨fun e => (nomatch (of_decide_eq_true e : V.ref p = V.non)), fun c => absurd l.is (c s a m)⟩
theorem ok_costas {f fN fF : Addr} {fd fdN fdF : FuncData} (F : Fun K "is_costas" "is_costas" sCostas f fd) (GN : FnOk P w K mg base CX0 3 fN fdN ["value"] spNeed) (kN : PySem.W.keepIn K (.ref fN) = true) (bN : Binds K fdN ["value"] []) (gN : mg "need_square" = some (.ref fN))
    (GF : FnOk P w K mg base CX0 2 fF fdF ["square"] spEqual) (kF : PySem.W.keepIn K (.ref fF) = true) (bF : Binds K fdF ["square"] []) (gF : mg "first_equal" = some (.ref fF)) : FnOk P w K mg base CX0 4 f fd ["square"] spCostas := by
  refine F.ok scCostas (fun vs H Q E h => ?_) (fun cdv A outer s H vs Q E hr h => ?_)
  · obtain ⟨a, sq, rfl, _⟩ := h
    rfl
  · obtain ⟨a, sq, rfl, ha, S, q⟩ := h
    refine ⟨_, pss_cons (ps_expr (pe_call GN hr (by rfl) gN kN bN .nil pass0 (pa_cons (pv 0) pa_nil))) (pss_one (ps_ret (pe_cmpR op_isN (pe_call GF (hr.mono (by decide)) (by rfl) gF kF bF .nil pass0 (pa_cons (pv 0) pa_nil)) pe_non (nomark _)))), ?_⟩
    refine ⟨_, rfl, a, sq, rfl, ha, S, fun H1 sm => ?_⟩
    exact ⟨_, rfl, a, sq, rfl, sm _ _ ha, S, fun v H2 sm2 an => ⟨rfl, q _ H2 (sm.trans sm2) an.none_iff⟩⟩
end
end Ec
set_option Elab.async false
set_option linter.all false
set_option maxRecDepth 100000
set_option maxHeartbeats 4000000
/-! hits. -/
namespace Ec
open PySem PySem.Spec PyProof.Rows L2
/-- {(..): v for .. in enumerate(t)} -/
theorem dc_pairs {K : PySem.W.Frag} {a : Addr} {xs : List V} {g : TG} {tk tv : TE} {vs : List Nat} {σ : L2.St} {H1 : Hp} {D : Addr} {Qd : Hp → Prop} (Pv : Nat → Hp → Prop) (h0 : Pv 0 (upd H1 D (.dT [])))
    (hl : ∀ i H, Pv i H → SqT K H a xs)
    (hs : ∀ (i : Nat) x T H, xs[i]? = some x → Pv i H → H T = none → g (.ref T) (wipe σ vs) (upd H T (.tup [.int ((i : Nat) : Int), x])) fun σ2 H2 => wipe σ2 vs = wipe σ vs ∧ tk σ2 H2 fun y H3 => tv σ2 H3 fun z H4 =>
      ∃ kvs k b, y = .ref b ∧ H4 b = some (.tup (k.map kV)) ∧ H4 D = some (.dT kvs) ∧ kvs.length < sizeLine ∧ Pv (i + 1) (upd H4 D (.dT (putK kvs k z))))
    (hd : ∀ H, Pv xs.length H → Qd H) :
    ∃ W : Nat → Nat → Hp → Prop, (∃ m, W 0 m (upd H1 D (.dT []))) ∧ ∀ i m H, W i m H → ((Itp K a).stop i H ∧ Qd H) ∨ ((Itp K a).go i H ∧ ∃ Nx : Hp → Prop, (∀ H', Nx H' → ∃ m', m' < m ∧ W (i + 1) m' H') ∧
      ∀ x H', (Itp K a).yld i H x H' → g x (wipe σ vs) H' fun σ2 H2 => wipe σ2 vs = wipe σ vs ∧ tk σ2 H2 fun y H3 => tv σ2 H3 fun z H4 =>
        ∃ kvs k b, y = .ref b ∧ H4 b = some (.tup (k.map kV)) ∧ H4 D = some (.dT kvs) ∧ kvs.length < sizeLine ∧ Nx (upd H4 D (.dT (putK kvs k z)))) := by
  refine ⟨fun i m H => i + m = xs.length ∧ Pv i H, ⟨xs.length, Nat.zero_add _, h0⟩, fun i m H ⟨em, p⟩ => ?_⟩
  have q := hl i H p
  cases m with
  | zero =>
    obtain rfl : i = xs.length := em
    exact .inl ⟨⟨xs, q, rfl⟩, hd H p⟩
  | succ m =>
    have hi : xs[i]? = some xs[i] := List.getElem?_eq_getElem (by omega)
    refine .inr ⟨⟨xs, _, q, hi⟩, Pv (i + 1), fun H' p' => ⟨m, Nat.lt_succ_self m, by omega, p'⟩, fun x H' hy => ?_⟩
    obtain ⟨T, y, rfl, nT, rfl, hx⟩ := hy
    exact hs i y T H (hx xs q) p nT
/-- the places below k with p, as ints -/
def places (p : Nat → Bool) (k : Nat) : List Int := ((List.range k).filter p).map fun j : Nat => (j : Int)
theorem places_len (p : Nat → Bool) (k : Nat) : (places p k).length = cnt p k := by
  unfold places cnt
  rw [List.length_map]
theorem places_yes {p : Nat → Bool} {k : Nat} (h : p k = true) : Ints (places p (k + 1)) = Ints (places p k) ++ [.int ((k : Nat) : Int)] := by
  unfold places
  rw [filter_succ, if_pos h, List.map_append]
  show (_ ++ [((k : Nat) : Int)]).map V.int = _
  rw [List.map_append]
  rfl
theorem places_no {p : Nat → Bool} {k : Nat} (h : ¬ p k = true) : places p (k + 1) = places p k := by
  unfold places
  rw [filter_succ, if_neg h]
section
variable {P : Program} {w : World} {K : PySem.W.Frag} {mg : Str → Option Value} {base : Heap}
/-! ### hits -/
theorem scHits : FnScope ["square", "right", "up", "told", "at", "row"] ["square", "right", "up"] (defScope sHits) := ⟨rfl, rfl, rfl, by decide +kernel, rfl, by decide +kernel, by decide +kernel⟩
def spHits : Sp := fun vs H Q _ => ∃ (a : Addr) (sq : List Int) (r u : Int), vs = [.ref a, .int r, .int u] ∧ H a = some (.tup (Ints sq)) ∧ Sq sq ∧ ∀ H' : Hp, Same H H' → Q (.int (hit sq r u)) H'
theorem ok_hits {f fN fI : Addr} {fd fdN fdI : FuncData} (F : Fun K "hits" "hits" sHits f fd) (GN : FnOk P w K mg base CX0 3 fN fdN ["value"] spNeed) (kN : PySem.W.keepIn K (.ref fN) = true) (bN : Binds K fdN ["value"] []) (gN : mg "need_square" = some (.ref fN))
    (GI : FnOk P w K mg base CX0 1 fI fdI ["value"] spIsInt) (kI : PySem.W.keepIn K (.ref fI) = true) (bI : Binds K fdI ["value"] []) (gI : mg "is_int" = some (.ref fI)) (B : Bare mg) : FnOk P w K mg base CX0 4 f fd ["square", "right", "up"] spHits := by
  refine F.ok scHits (fun vs H Q E h => ?_) (fun cdv A outer s H vs Q E hr h => ?_)
  · obtain ⟨a, sq, r, u, rfl, _⟩ := h
    rfl
  · obtain ⟨a, sq, r, u, rfl, ha, S, q⟩ := h
    have h30 := S.hi
    have hu := hu_of hr
    have hr1 := hr.mono (j := 1) (by decide)
    refine ⟨_, pss_cons (ps_expr (pe_call GN hr (by rfl) gN kN bN .nil pass0 (pa_cons (pv 0) pa_nil)))
      (pss_cons (ps_if (PW.pt (pw_or (pt_not (pt_val (pe_call GI hr1 (by rfl) gI kI bI .nil pass0 (pa_cons (pv 1) pa_nil)))) (pw_or1 (pt_not (pt_val (pe_call GI hr1 (by rfl) gI kI bI .nil pass0 (pa_cons (pv 2) pa_nil))))))) pss_never pss_nil)
      (pss_cons (ps_set (i := 3) scHits.nd rfl (Or.inr rfl) (pe_dcT (own := [("at", 4), ("row", 5)]) (g := gTup K 2 (gCons (gName 4) (gCons (gName 5) gNil))) rfl scHits.nd (Nat.lt_of_succ_lt hu) (pi_pairs (by rfl) B.enum (pa_cons (pv 0) pa_nil))
          (blkOk_by (N := ["square", "right", "up", "told", "at", "row"]) (sc := defScope sHits) (by decide +kernel))
          (fun _ _ _ _ _ => pg_tup rfl (pgs_cons (pg_name (i := 4) scHits.nd rfl (Or.inl rfl)) (pgs_cons (pg_name (i := 5) scHits.nd rfl (Or.inl rfl)) pgs_nil)))
          (fun _ _ _ _ _ => pe_tup (pa_cons (pv 4) (pa_cons (pv 5) pa_nil))) (fun _ _ _ _ _ => pe_bl)))
      (pss_one (ps_ret (pe_callB call_lenS (by rfl) B.len PySem.boot_len (pa_cons (pe_lc (own := [("at", 4), ("row", 5)]) (g := gTup K 2 (gCons (gName 4) (gCons (gName 5) gNil))) rfl scHits.nd (pi_pairs (by rfl) B.enum (pa_cons (pv 0) pa_nil))
          (blkOk_by (N := ["square", "right", "up", "told", "at", "row"]) (sc := defScope sHits) (by decide +kernel))
          (fun _ _ _ _ _ => pg_tup rfl (pgs_cons (pg_name (i := 4) scHits.nd rfl (Or.inl rfl)) (pgs_cons (pg_name (i := 5) scHits.nd rfl (Or.inl rfl)) pgs_nil)))
          (fun _ _ _ _ _ => pts_one (pt_cmp (pc_din hu (pe_tup (pa_cons (pe_op op_add (pv 4) (pv 1)) (pa_cons (pe_op op_add (pv 5) (pv 2)) pa_nil))) (pv 3))))
          (fun _ _ _ _ _ => pv 4)) pa_nil)))))), ?_⟩
    refine ⟨_, rfl, a, sq, rfl, ha, S, fun H1 sm1 => ?_⟩
    refine ⟨_, rfl, r, rfl, true, rfl, iteF ⟨_, rfl, u, rfl, true, rfl, iteF ?_⟩⟩
    -- told
    have ha1 := sm1 _ _ ha
    have two : 2 ≤ sizeLine := by decide
    refine ⟨_, rfl, a, _, rfl, SqT.of ha1, fun D nD => dc_pairs (K := K) (a := a) (xs := Ints sq) (fun i H' => ∃ kvs, H' D = some (.dT kvs) ∧ kvs.length ≤ i ∧ Same H1 H' ∧ ∀ x y : Int, (valV kvs [Sum.inl x, Sum.inl y]).isSome = true ↔ ∃ j : Nat, j < i ∧ (j : Int) = x ∧ g sq j = y)
      ⟨[], upd_same, Nat.le_refl _, same_new nD, fun x y => ⟨fun e => (nomatch e), fun ⟨j, h, _⟩ => absurd h (Nat.not_lt_zero _)⟩⟩ (fun i H' ⟨_, _, _, sm, _⟩ => SqT.of (sm _ _ ha1)) ?_ ?_⟩
    · rintro i x T H2 hx ⟨kvs, hD, hl, sm, keys⟩ nT
      have hi : i < sq.length := by
        have := (List.getElem?_eq_some_iff.mp hx).1
        rwa [ints_len] at this
      obtain rfl : V.int (g sq i) = x := Option.some.inj ((ints_at hi).symm.trans hx)
      refine ⟨T, _, rfl, SqT.of upd_same, rfl, _, _, rfl, _, _, rfl, rfl, rfl, _, rfl, _, rfl, two, fun U nU => ?_⟩
      have hD2 : (upd (upd H2 T (.tup [.int ((i : Nat) : Int), .int (g sq i)])) U (.tup [.int ((i : Nat) : Int), .int (g sq i)])) D = some (.dT kvs) := by
        have e1 : (upd H2 T (.tup [.int ((i : Nat) : Int), .int (g sq i)])) D = some (.dT kvs) := by
          rw [upd_ne (ne_of_none hD nT)]
          exact hD
        rw [upd_ne (ne_of_none e1 nU)]
        exact e1
      refine ⟨kvs, [Sum.inl ((i : Nat) : Int), Sum.inl (g sq i)], U, rfl, upd_same, hD2, small1000 (by omega), _, upd_same, ?_, Same.wr (Same.new (Same.new sm nT) nU) nD, fun x y => ?_⟩
      · have := length_putK kvs [Sum.inl ((i : Nat) : Int), Sum.inl (g sq i)] (V.bl true)
        omega
      · rw [valV_put]
        constructor
        · intro h
          by_cases er : ([Sum.inl x, Sum.inl y] : List Key) = [Sum.inl ((i : Nat) : Int), Sum.inl (g sq i)]
          · injection er with e1 e2
            injection e2 with e2 _
            exact ⟨i, by omega, (Sum.inl.inj e1).symm, (Sum.inl.inj e2).symm⟩
          · rw [if_neg er] at h
            obtain ⟨j, h1, h2⟩ := (keys x y).mp h
            exact ⟨j, by omega, h2⟩
        · rintro ⟨j, h1, h2, h3⟩
          by_cases er : ([Sum.inl x, Sum.inl y] : List Key) = [Sum.inl ((i : Nat) : Int), Sum.inl (g sq i)]
          · rw [if_pos er]
            rfl
          · rw [if_neg er]
            refine (keys x y).mpr ⟨j, ?_, h2, h3⟩
            have : j ≠ i := fun z => er (by rw [← h2, ← h3, z])
            omega
    · rintro H2 ⟨kvs, hD, hl, sm2, keys⟩
      rw [ints_len] at hl keys
      refine ⟨_, rfl, a, _, rfl, SqT.of (sm2 _ _ ha1), fun L nL => lc_pairs (K := K) (a := a) (xs := Ints sq) (fun i H' => H' L = some (.lst (Ints (places (fall sq r u) i))) ∧ Same H2 H') ⟨upd_same, same_new nL⟩ (fun i H' p => SqT.of (p.2 _ _ (sm2 _ _ ha1))) ?_ ?_⟩
      · rintro i x T H3 hx ⟨hL, sm3⟩ nT
        have hi : i < sq.length := by
          have := (List.getElem?_eq_some_iff.mp hx).1
          rwa [ints_len] at this
        obtain rfl : V.int (g sq i) = x := Option.some.inj ((ints_at hi).symm.trans hx)
        refine ⟨T, _, rfl, SqT.of upd_same, rfl, _, _, rfl, _, _, rfl, rfl, rfl, _, rfl, _, rfl, _, _, rfl, rfl, _, rfl, _, rfl, _, _, rfl, rfl, two, fun U nU => ?_⟩
        have sm4 : Same H2 (upd (upd H3 T (.tup [.int ((i : Nat) : Int), .int (g sq i)])) U (.tup [.int (((i : Nat) : Int) + r), .int (g sq i + u)])) := Same.new (Same.new sm3 nT) nU
        have hL4 : (upd (upd H3 T (.tup [.int ((i : Nat) : Int), .int (g sq i)])) U (.tup [.int (((i : Nat) : Int) + r), .int (g sq i + u)])) L = some (.lst (Ints (places (fall sq r u) i))) := by
          have e1 : (upd H3 T (.tup [.int ((i : Nat) : Int), .int (g sq i)])) L = some (.lst (Ints (places (fall sq r u) i))) := by
            rw [upd_ne (ne_of_none hL nT)]
            exact hL
          rw [upd_ne (ne_of_none e1 nU)]
          exact e1
        have hU : (upd (upd H3 T (.tup [.int ((i : Nat) : Int), .int (g sq i)])) U (.tup [.int (((i : Nat) : Int) + r), .int (g sq i + u)])) U = some (.tup (([Sum.inl (((i : Nat) : Int) + r), Sum.inl (g sq i + u)] : List Key).map kV)) := upd_same
        generalize upd (upd H3 T (.tup [.int ((i : Nat) : Int), .int (g sq i)])) U (.tup [.int (((i : Nat) : Int) + r), .int (g sq i + u)]) = H4 at sm4 hL4 hU ⊢
        refine ⟨_, rfl, D, _, rfl, DGet.t (sm4 _ _ hD) hU, _, rfl, ite2 (fun e => ?_) (fun e => ?_)⟩
        · have ft : fall sq r u i = true := fall_iff.mpr ((keys _ _).mp e)
          refine ⟨_, rfl, _, hL4, ?_, ?_, Same.wr sm4 nL⟩
          · rw [ints_len, places_len]
            have := cnt_le (fall sq r u) i
            exact small1000 (by omega)
          · rw [upd_same, places_yes ft]
        · have ff : ¬ fall sq r u i = true := fun z => e ((keys _ _).mpr (fall_iff.mp z))
          refine ⟨?_, sm4⟩
          rw [places_no ff]
          exact hL4
      · rintro H3 ⟨hL, sm3⟩
        refine ⟨L, _, rfl, .inl (SqL.of hL), ?_⟩
        rw [ints_len, places_len, ints_len]
        exact q _ ((sm1.trans sm2).trans sm3)
end
end Ec
set_option Elab.async false
set_option linter.all false
set_option maxRecDepth 100000
set_option maxHeartbeats 4000000
/-! hit_table. -/
namespace Ec
open PySem PySem.Spec PyProof.Rows L2
theorem zeros : ∀ n : Nat, (List.replicate n [V.int 0]).flatten = Ints (List.replicate n 0)
  | 0 => rfl
  | n + 1 => by
    rw [List.replicate_succ, List.replicate_succ, List.flatten_cons, zeros n]
    rfl
/-- at the addresses stand the rows of the table -/
def Rows (sq : List Int) (ps : List Addr) (H : Hp) : Prop := ∀ (r : Nat) (b : Addr), ps[r]? = some b → H b = some (.tup (Ints (rowOf sq r)))
theorem Rows.same {sq : List Int} {ps : List Addr} {H H' : Hp} (R : Rows sq ps H) (s : Same H H') : Rows sq ps H' := fun r b e => s _ _ (R r b e)
theorem Rows.snoc {sq : List Int} {ps : List Addr} {H : Hp} {b : Addr} (R : Rows sq ps H) (h : H b = some (.tup (Ints (rowOf sq ps.length)))) : Rows sq (ps ++ [b]) H := fun r c e => by
  by_cases hr : r < ps.length
  · rw [List.getElem?_append_left hr] at e
    exact R r c e
  · rw [List.getElem?_append_right (by omega)] at e
    have e0 : r - ps.length = 0 := by
      have := (List.getElem?_eq_some_iff.mp e).1
      have e1 : ([b] : List Addr).length = 1 := rfl
      omega
    rw [e0] at e
    obtain rfl : b = c := Option.some.inj e
    rw [show r = ps.length by omega]
    exact h
/-- a list is written -/
theorem Rows.wr {sq : List Int} {ps : List Addr} {H : Hp} {l : Addr} {xs : List V} {o : HO} (R : Rows sq ps H) (h : H l = some (.lst xs)) : Rows sq ps (upd H l o) := fun r b e => by
  rw [upd_ne (ne_of (R r b e) h fun z => nomatch z)]
  exact R r b e
section
variable {P : Program} {w : World} {K : PySem.W.Frag} {mg : Str → Option Value} {base : Heap}
theorem scTable : FnScope ["square", "many", "found", "right", "row", "at"] ["square"] (defScope sTable) := ⟨rfl, rfl, rfl, by decide +kernel, rfl, by decide +kernel, by decide +kernel⟩
def spTable : Sp := fun vs H Q _ => ∃ (a : Addr) (sq : List Int), vs = [.ref a] ∧ H a = some (.tup (Ints sq)) ∧ Sq sq ∧ ∀ (t : Addr) (ps : List Addr) (H' : Hp), Same H H' → H' t = some (.tup (ps.map V.ref)) → ps.length = sq.length → Rows sq ps H' → Q (.ref t) H'
theorem ok_table {f fN : Addr} {fd fdN : FuncData} (F : Fun K "hit_table" "hit_table" sTable f fd) (GN : FnOk P w K mg base CX0 3 fN fdN ["value"] spNeed) (kN : PySem.W.keepIn K (.ref fN) = true) (bN : Binds K fdN ["value"] []) (gN : mg "need_square" = some (.ref fN))
    (B : Bare mg) : FnOk P w K mg base CX0 4 f fd ["square"] spTable := by
  refine F.ok scTable (fun vs H Q E h => ?_) (fun cdv A outer s H vs Q E hr h => ?_)
  · obtain ⟨a, sq, rfl, _⟩ := h
    rfl
  · obtain ⟨a, sq, rfl, ha, S, q⟩ := h
    have h30 := S.hi
    have h1 := S.lo
    refine ⟨_, pss_cons (ps_expr (pe_call GN hr (by rfl) gN kN bN .nil pass0 (pa_cons (pv 0) pa_nil)))
      (pss_cons (ps_par (i := 1) (j := 2) rfl scTable.nd rfl rfl (by decide) rfl rfl (pa_cons (pe_callB call_lenS (by rfl) B.len PySem.boot_len (pa_cons (pv 0) pa_nil)) (pa_cons (pe_lst pa_nil) pa_nil)) (by rfl))
      (pss_cons (ps_for PassesOwn.never rfl (pi_range1 rfl B.range (pa_cons (pv 1) pa_nil)) (pg_name (i := 3) scTable.nd rfl (Or.inl rfl))
        (pss_cons (ps_set (i := 4) scTable.nd rfl (Or.inl rfl) (pe_op op_rep (pe_lst (pa_cons pe_int pa_nil)) (pe_op op_sub (pe_op op_mul pe_int (pv 1)) pe_int)))
        (pss_cons (ps_for PassesOwn.never rfl (pi_range1 rfl B.range (pa_cons (pe_op op_sub (pv 1) (pv 3)) pa_nil)) (pg_name (i := 5) scTable.nd rfl (Or.inl rfl))
          (pss_one (ps_augS (pv 4) (pe_op op_sub (pe_op op_add (pe_op op_sub (pe_ix ix_tup (pv 0) (pe_op op_add (pv 5) (pv 3)) (fun _ _ => rfl)) (pe_ix ix_tup (pv 0) (pv 5) (fun _ _ => rfl))) (pv 1)) pe_int) get_list pe_int ip_add set_list)))
        (pss_one (ps_expr (pe_bm PySem.F.plainAttrs_list PySem.F.slot_list_append PySem.F.type_list_append mt_append (pv 2) (pa_cons (pe_callTy call_tuple_of (by rfl) B.tuple (by decide +kernel) (pa_cons (pv 4) pa_nil)) pa_nil)))))))
      (pss_one (ps_ret (pe_callTy call_tuple_of (by rfl) B.tuple (by decide +kernel) (pa_cons (pv 2) pa_nil)))))), ?_⟩
    refine ⟨_, rfl, a, sq, rfl, ha, S, fun H1 sm1 => ?_⟩
    have ha1 := sm1 _ _ ha
    refine ⟨_, rfl, a, _, rfl, .inr (SqT.of ha1), Nat.zero_le _, fun l nl => ⟨_, _, rfl, ?_⟩⟩
    rw [ints_len]
    have nl0 : H l = none := Same.free sm1 nl
    refine ⟨_, rfl, _, rfl, by omega, by omega, for_range (lo := 0) (n := ((sq.length : Nat) : Int).toNat) (fun r σ H' => ∃ (o3 o4 o5 : Option V) (ps : List Addr), σ = [some (.ref a), some (.int ((sq.length : Nat) : Int)), some (.ref l), o3, o4, o5] ∧
      Same H H' ∧ H' l = some (.lst (ps.map V.ref)) ∧ ps.length = r ∧ Rows sq ps H') ⟨none, none, none, [], rfl, Same.new sm1 nl, upd_same, rfl, fun r b e => nomatch e⟩ ?_ ?_⟩
    · rintro r σ H2 hr' ⟨o3, o4, o5, ps, rfl, sm2, hl, el, R⟩
      rw [Int.toNat_natCast] at hr'
      rw [show (0 : Int) + (r : Int) = ((r : Nat) : Int) by omega]
      -- row = [0] * (2 * many - 1)
      refine ⟨by show 1 ≤ sizeLine; decide, fun z nz => ?_⟩
      have e2n : (2 * ((sq.length : Nat) : Int) - 1).toNat = 2 * sq.length - 1 := by omega
      refine ⟨_, rfl, 2, _, rfl, rfl, .inl ⟨by decide, by decide⟩, _, 1, rfl, rfl, z, _, _, rfl, rfl, upd_same, by omega, by omega, ?_, fun y ny => ?_⟩
      · show 1 * (2 * ((sq.length : Nat) : Int) - 1).toNat ≤ sizeLine
        rw [e2n]
        exact small30 (by omega)
      have sm3 : Same H2 (upd H2 z (.lst [.int 0])) := same_new nz
      have hy0 : (upd (upd H2 z (.lst [.int 0])) y (.lst (List.replicate (2 * ((sq.length : Nat) : Int) - 1).toNat [V.int 0]).flatten)) y = some (.lst (Ints (rowK sq r 0))) := by
        rw [upd_same, e2n, zeros, rowK_zero]
      have ny2 : H2 y = none := Same.free sm3 ny
      have sm4 : Same H2 (upd (upd H2 z (.lst [.int 0])) y (.lst (List.replicate (2 * ((sq.length : Nat) : Int) - 1).toNat [V.int 0]).flatten)) := Same.new sm3 ny
      refine ⟨_, rfl, _, rfl, _, _, rfl, rfl, _, rfl, by omega, by omega, for_range (lo := 0) (n := (((sq.length : Nat) : Int) - ((r : Nat) : Int)).toNat) (fun k σ H' => ∃ o5 : Option V, σ = [some (.ref a), some (.int ((sq.length : Nat) : Int)), some (.ref l), some (.int ((r : Nat) : Int)), some (.ref y), o5] ∧
        Same H2 H' ∧ H' y = some (.lst (Ints (rowK sq r k)))) ⟨o5, rfl, sm4, hy0⟩ ?_ ?_⟩
      · rintro k σ H3 hk ⟨o5, rfl, sm5, hy⟩
        rw [show (0 : Int) + (k : Int) = ((k : Nat) : Int) by omega]
        have hkr : k + r < sq.length := by omega
        have ha3 := SqT.of (K := K) (sm5 _ _ (sm2 _ _ ha))
        obtain ⟨sp1, sp2⟩ := spot_lt S hkr
        have hrow : spot sq r k < (rowK sq r k).length := by
          rw [rowK_len]
          exact sp2
        refine ⟨_, rfl, _, rfl, _, rfl, _, rfl, _, _, rfl, rfl, a, _, _, _, rfl, rfl, ha3, at_of (j := k + r) (by omega) (ints_at (by omega)), _, rfl, _, rfl, a, _, _, _, rfl, rfl, ha3, at_of (j := k) rfl (ints_at (by omega)), _, _, rfl, rfl, _, rfl, _, _, rfl, rfl, _, 1, rfl, rfl, ?_⟩
        refine ⟨y, _, spot sq r k, _, rfl, congrArg V.int sp1.symm, SqL.of hy, ints_at hrow, _, 1, rfl, rfl, y, _, _, spot sq r k, rfl, rfl, hy, ?_, ?_⟩
        · rw [ints_len, ← sp1]
          exact ixN_of hrow
        · refine ⟨_, rfl, Same.wr sm5 ny2, ?_⟩
          rw [upd_same, ← rowK_step S hkr]
          show some (HO.lst (((rowK sq r k).map V.int).set _ _)) = some (HO.lst (List.map _ _))
          rw [List.map_set]
      · rintro σ H3 ⟨o5, rfl, sm5, hy⟩
        rw [show (((sq.length : Nat) : Int) - ((r : Nat) : Int)).toNat = sq.length - r by omega] at hy
        -- found.append(tuple(row))
        have hl3 := sm5 _ _ hl
        refine ⟨_, rfl, .inl ⟨rfl, _, SqL.of hl3⟩, _, rfl, y, _, rfl, .inl ⟨SqL.of hy, fun t nt => ?_⟩⟩
        have hl4 : (upd H3 t (.tup (Ints (rowK sq r (sq.length - r))))) l = some (.lst (ps.map V.ref)) := by
          rw [upd_ne (ne_of_none hl3 nt)]
          exact hl3
        have sm6 : Same H2 (upd H3 t (.tup (Ints (rowK sq r (sq.length - r))))) := Same.new sm5 nt
        have ht : (upd H3 t (.tup (Ints (rowK sq r (sq.length - r))))) t = some (.tup (Ints (rowOf sq ps.length))) := by
          rw [upd_same, el]
          rfl
        refine ⟨l, _, .ref t, rfl, rfl, hl4, ?_, _, _, _, ps ++ [t], rfl, Same.wr (sm2.trans sm6) nl0, ?_, ?_, ((R.same sm6).snoc ht).wr hl4⟩
        · rw [List.length_map]
          exact small1000 (by omega)
        · rw [upd_same, List.map_append]
          rfl
        · rw [List.length_append, el]
          rfl
    · rintro σ H2 ⟨o3, o4, o5, ps, rfl, sm2, hl, el, R⟩
      rw [Int.toNat_natCast] at el
      refine ⟨_, rfl, l, _, rfl, .inl ⟨SqL.of hl, fun t nt => ?_⟩⟩
      exact q t ps _ (Same.new sm2 nt) upd_same el (R.same (same_new nt))
end
end Ec
set_option Elab.async false
set_option linter.all false
set_option maxRecDepth 100000
set_option maxHeartbeats 4000000
/-! _law_alike: of equal data it says True. -/
namespace Ec
open PySem PySem.Spec PyProof.Rows L2
/-- None, a bool, an int -/
def plain : V → Bool
  | .non => true
  | .bl _ => true
  | .int _ => true
  | _ => false
theorem plain_ints (ks : List Int) : ∀ x ∈ Ints ks, plain x = true := fun x h => by
  obtain ⟨k, _, rfl⟩ := List.mem_map.mp h
  rfl
def tyN : V → String
  | .non => "NoneType"
  | .bl _ => "bool"
  | _ => "int"
theorem plain_ty {K : PySem.W.Frag} {H : Hp} {x : V} (h : plain x = true) : TyX K H x (.type (tyN x)) := by
  cases x with
  | non => exact .base .non
  | bl b => exact .base (.bl b)
  | int i => exact .base (.int i)
  | _ => exact absurd h Bool.false_ne_true
theorem kit_two {K : PySem.W.Frag} {t : Value} (h1 : PySem.W.kitOne K t (.type "tuple") = some false) (h2 : PySem.W.kitOne K t (.type "list") = some false) : PySem.W.kitAny K t [.type "tuple", .type "list"] = some false :=
  kitAny_cons h1 (fun _ => kitAny_cons h2 (fun _ => kitAny_nil) fun z => nomatch z) fun z => nomatch z
theorem plain_two {K : PySem.W.Frag} {x : V} (h : plain x = true) : PySem.W.kitAny K (.type (tyN x)) [.type "tuple", .type "list"] = some false := by
  cases x with
  | non => exact kit_two (kit_ty (by decide +kernel)) (kit_ty (by decide +kernel))
  | bl b => exact kit_two (kit_ty (a := "bool") (b := "tuple") (r := false) (by decide +kernel)) (kit_ty (a := "bool") (b := "list") (r := false) (by decide +kernel))
  | int i => exact kit_two (kit_ty (a := "int") (b := "tuple") (r := false) (by decide +kernel)) (kit_ty (a := "int") (b := "list") (r := false) (by decide +kernel))
  | _ => exact absurd h Bool.false_ne_true
theorem plain_str {K : PySem.W.Frag} {x : V} (h : plain x = true) : PySem.W.kitOne K (.type (tyN x)) (.type "str") = some false := by
  cases x with
  | non => exact kit_ty (by decide +kernel)
  | bl b => exact (kit_ty (a := "bool") (b := "str") (r := false) (by decide +kernel))
  | int i => exact (kit_ty (a := "int") (b := "str") (r := false) (by decide +kernel))
  | _ => exact absurd h Bool.false_ne_true
theorem plain_int {K : PySem.W.Frag} {x : V} (h : plain x = true) (n : x ≠ .non) : PySem.W.kitOne K (.type (tyN x)) (.type "int") = some true := by
  cases x with
  | non => exact absurd rfl n
  | bl b => exact (kit_ty (a := "bool") (b := "int") (r := true) (by decide +kernel))
  | int i => exact (kit_ty (a := "int") (b := "int") (r := true) (by decide +kernel))
  | _ => exact absurd h Bool.false_ne_true
theorem plain_bool {K : PySem.W.Frag} {x : V} (h : plain x = true) : ∃ b, PySem.W.kitOne K (.type (tyN x)) (.type "bool") = some b := by
  cases x with
  | non => exact ⟨false, kit_ty (by decide +kernel)⟩
  | bl b => exact ⟨true, (kit_ty (a := "bool") (b := "bool") (r := true) (by decide +kernel))⟩
  | int i => exact ⟨false, (kit_ty (a := "int") (b := "bool") (r := false) (by decide +kernel))⟩
  | _ => exact absurd h Bool.false_ne_true
theorem plain_scal {x : V} (h : plain x = true) : scal x x = true := by
  cases x with
  | non => rfl
  | bl b => rfl
  | int i => rfl
  | _ => exact absurd h Bool.false_ne_true
theorem tup_two {K : PySem.W.Frag} : PySem.W.kitAny K (.type "tuple") [.type "tuple", .type "list"] = some true := kitAny_cons tup_tup (fun z => nomatch z) fun _ => rfl
theorem tup_list {K : PySem.W.Frag} : PySem.W.kitOne K (.type "tuple") (.type "list") = some false := kit_ty (by decide +kernel)
section
variable {P : Program} {w : World} {K : PySem.W.Frag} {mg : Str → Option Value} {base : Heap}
theorem scAlike : FnScope ["_law_found", "_law_due", "_law_k"] ["_law_found", "_law_due"] (defScope sAlike) := ⟨rfl, rfl, rfl, by decide +kernel, rfl, by decide +kernel, by decide +kernel⟩
/-- of two equal plain values -/
def spAlike0 : Sp := fun vs H Q _ => ∃ x : V, vs = [x, x] ∧ plain x = true ∧ ∀ H' : Hp, Same H H' → Q (.bl true) H'
theorem ok_alike0 {f : Addr} {fd : FuncData} {k : Nat} (F : Fun K "_law_alike" "_law_alike" sAlike f fd) (B : Bare mg) : FnOk P w K mg base CX0 (k + 1) f fd ["_law_found", "_law_due"] spAlike0 := by
  refine F.ok scAlike (fun vs H Q E h => ?_) (fun cdv A outer s H vs Q E hr h => ?_)
  · obtain ⟨x, rfl, _⟩ := h
    rfl
  · obtain ⟨x, rfl, px, q⟩ := h
    refine ⟨_, pss_cons (ps_if (pt_val (pe_callB call_isiT (by rfl) B.isi (by decide +kernel) (pa_cons (pv 1) (pa_cons (pe_tup (pa_cons (pe_bltn (v := .ty "tuple") (by rfl) B.tuple (by decide +kernel) rfl) (pa_cons (pe_bltn (v := .ty "list") (by rfl) B.list (by decide +kernel) rfl) pa_nil))) pa_nil)))) pss_never pss_nil)
      (pss_cons (ps_if (PW.pt (pw_or (pt_cmpR op_isN (pv 1) pe_non (nomark _)) (pw_or1 (pt_val (pe_callB call_isi (by rfl) B.isi (by decide +kernel) (pa_cons (pv 1) (pa_cons (pe_bltn (v := .ty "str") (by rfl) B.str (by decide +kernel) rfl) pa_nil)))))))
        (pss_one (ps_ret (pe_and (pe_cmpR op_eq (pv 0) (pv 1) (nomark _)) (pe_one (pe_cmpR op_eq (pe_callB call_isi (by rfl) B.isi (by decide +kernel) (pa_cons (pv 0) (pa_cons (pe_bltn (v := .ty "str") (by rfl) B.str (by decide +kernel) rfl) pa_nil)))
          (pe_callB call_isi (by rfl) B.isi (by decide +kernel) (pa_cons (pv 1) (pa_cons (pe_bltn (v := .ty "str") (by rfl) B.str (by decide +kernel) rfl) pa_nil))) (nomark _)))))) pss_nil)
      (pss_one (ps_ret (pe_and (pe_callB call_isi (by rfl) B.isi (by decide +kernel) (pa_cons (pv 0) (pa_cons (pe_bltn (v := .ty "int") (by rfl) B.int (by decide +kernel) rfl) pa_nil)))
        (pe_and (pe_cmpR op_eq (pe_callB call_isi (by rfl) B.isi (by decide +kernel) (pa_cons (pv 0) (pa_cons (pe_bltn (v := .ty "bool") (by rfl) B.bool (by decide +kernel) rfl) pa_nil)))
          (pe_callB call_isi (by rfl) B.isi (by decide +kernel) (pa_cons (pv 1) (pa_cons (pe_bltn (v := .ty "bool") (by rfl) B.bool (by decide +kernel) rfl) pa_nil))) (nomark _))
        (pe_one (pe_cmpR op_eq (pv 0) (pv 1) (nomark _)))))))), ?_⟩
    refine ⟨_, rfl, by decide, fun T nT => ⟨x, T, _, _, _, false, rfl, upd_same, .cons (.ty "tuple") (.cons (.ty "list") .nil), plain_ty px, plain_two px, false, rfl, iteF ?_⟩⟩
    have same : Same H (upd H T (.tup [.ty "tuple", .ty "list"])) := same_new nT
    generalize upd H T (.tup [.ty "tuple", .ty "list"]) = H1 at same ⊢
    have yes : ∀ b : Bool, decide (V.bl b = V.bl b) = true := fun b => decide_eq_true rfl
    by_cases en : x = .non
    · subst en
      refine ⟨_, rfl, rfl, true, rfl, iteT ?_⟩
      refine ⟨_, rfl, _, rfl, rfl, true, rfl, iteT ⟨_, rfl, .non, _, _, _, false, rfl, .ty "str", plain_ty px, plain_str px, _, rfl, .non, _, _, _, false, rfl, .ty "str", plain_ty px, plain_str px, rfl, ?_⟩⟩
      exact q _ same
    · refine ⟨_, rfl, rfl, false, congrArg V.bl (decide_eq_false en), iteF ⟨_, rfl, x, _, _, _, false, rfl, .ty "str", plain_ty px, plain_str px, false, rfl, iteF ?_⟩⟩
      obtain ⟨b, hb⟩ := plain_bool (K := K) px
      refine ⟨_, rfl, x, _, _, _, true, rfl, .ty "int", plain_ty px, plain_int px en, true, rfl, iteT ?_⟩
      refine ⟨_, rfl, x, _, _, _, b, rfl, .ty "bool", plain_ty px, hb, _, rfl, x, _, _, _, b, rfl, .ty "bool", plain_ty px, hb, rfl, true, congrArg V.bl (yes b), iteT ⟨_, rfl, _, rfl, plain_scal px, ?_⟩⟩
      show Q (.bl (decide (x = x))) H1
      rw [decide_eq_true rfl]
      exact q _ same
/-- of two tuples whose items are alike -/
def spAlikeS (sp : Sp) : Sp := fun vs H Q _ => ∃ (a b : Addr) (xs ys : List V), vs = [.ref a, .ref b] ∧ H a = some (.tup xs) ∧ H b = some (.tup ys) ∧ xs.length = ys.length ∧ xs.length ≤ 1000 ∧
  (∀ (i : Nat) (x y : V), xs[i]? = some x → ys[i]? = some y → ∀ H1, Same H H1 → ∀ Q' : VK, (∀ H', Same H1 H' → Q' (.bl true) H') → sp [x, y] H1 Q' E0) ∧ ∀ H' : Hp, Same H H' → Q (.bl true) H'
theorem ok_alikeS {f : Addr} {fd : FuncData} {k : Nat} {sp : Sp} (F : Fun K "_law_alike" "_law_alike" sAlike f fd) (G : FnOk P w K mg base CX0 k f fd ["_law_found", "_law_due"] sp) (b : Binds K fd ["_law_found", "_law_due"] []) (g : mg "_law_alike" = some (.ref f))
    (B : Bare mg) : FnOk P w K mg base CX0 (k + 1) f fd ["_law_found", "_law_due"] (spAlikeS sp) := by
  refine F.ok scAlike (fun vs H Q E h => ?_) (fun cdv A outer s H vs Q E hr h => ?_)
  · obtain ⟨a, b, xs, ys, rfl, _⟩ := h
    rfl
  · obtain ⟨a, b', xs, ys, rfl, ha, hb, hl, h1000, each, q⟩ := h
    refine ⟨_, pss_cons (ps_if (pt_val (pe_callB call_isiT (by rfl) B.isi (by decide +kernel) (pa_cons (pv 1) (pa_cons (pe_tup (pa_cons (pe_bltn (v := .ty "tuple") (by rfl) B.tuple (by decide +kernel) rfl) (pa_cons (pe_bltn (v := .ty "list") (by rfl) B.list (by decide +kernel) rfl) pa_nil))) pa_nil))))
        (pss_cons (ps_if (PW.pt (pw_or (pt_not (pt_val (pe_callB call_isiT (by rfl) B.isi (by decide +kernel) (pa_cons (pv 0) (pa_cons (pe_tup (pa_cons (pe_bltn (v := .ty "tuple") (by rfl) B.tuple (by decide +kernel) rfl) (pa_cons (pe_bltn (v := .ty "list") (by rfl) B.list (by decide +kernel) rfl) pa_nil))) pa_nil)))))
            (pw_or1 (pt_cmpR op_ne (pe_callB call_isi (by rfl) B.isi (by decide +kernel) (pa_cons (pv 0) (pa_cons (pe_bltn (v := .ty "list") (by rfl) B.list (by decide +kernel) rfl) pa_nil)))
              (pe_callB call_isi (by rfl) B.isi (by decide +kernel) (pa_cons (pv 1) (pa_cons (pe_bltn (v := .ty "list") (by rfl) B.list (by decide +kernel) rfl) pa_nil))) (nomark _))))) pss_never pss_nil)
        (pss_cons (ps_if (pt_cmpR op_ne (pe_callB call_lenS (by rfl) B.len PySem.boot_len (pa_cons (pv 0) pa_nil)) (pe_callB call_lenS (by rfl) B.len PySem.boot_len (pa_cons (pv 1) pa_nil)) (nomark _)) pss_never pss_nil)
        (pss_one (ps_ret (pe_cmpR (op_eqD hr.units) (pe_lc (own := [("_law_k", 2)]) (g := gName 2) rfl scAlike.nd (pi_range1 rfl B.range (pa_cons (pe_callB call_lenS (by rfl) B.len PySem.boot_len (pa_cons (pv 1) pa_nil)) pa_nil))
            (blkOk_by (N := ["_law_found", "_law_due", "_law_k"]) (sc := defScope sAlike) (by decide +kernel)) (fun _ _ _ _ _ => pg_name (i := 2) scAlike.nd rfl (Or.inl rfl))
            (fun _ _ _ _ _ => pts_one (pt_not (pt_val (pe_call (E := E0) G hr (by rfl) g F.kp b .nil pass0 (pa_cons (pe_ix (r := rIxT K) ix_tup (pv 0) (pv 2) (fun _ _ => rfl)) (pa_cons (pe_ix (r := rIxT K) ix_tup (pv 1) (pv 2) (fun _ _ => rfl)) pa_nil))))))
            (fun _ _ _ _ _ => pv 2)) (pe_lst pa_nil) (nomark _)))))) pss_nil)
      pss_never, ?_⟩
    refine ⟨_, rfl, by decide, fun T nT => ⟨.ref b', T, _, _, _, true, rfl, upd_same, .cons (.ty "tuple") (.cons (.ty "list") .nil), .base (.tup (same_new nT _ _ hb)), tup_two, true, rfl, iteT ?_⟩⟩
    have sm1 : Same H (upd H T (.tup [.ty "tuple", .ty "list"])) := same_new nT
    generalize upd H T (.tup [.ty "tuple", .ty "list"]) = H1 at sm1 ⊢
    refine ⟨_, rfl, by decide, fun U nU => ⟨.ref a, U, _, _, _, true, rfl, upd_same, .cons (.ty "tuple") (.cons (.ty "list") .nil), .base (.tup (same_new nU _ _ (sm1 _ _ ha))), tup_two, true, rfl, iteF ?_⟩⟩
    have sm2 : Same H (upd H1 U (.tup [.ty "tuple", .ty "list"])) := Same.new sm1 nU
    generalize upd H1 U (.tup [.ty "tuple", .ty "list"]) = H2 at sm2 ⊢
    have ha2 := sm2 _ _ ha
    have hb2 := sm2 _ _ hb
    refine ⟨_, rfl, .ref a, _, _, _, false, rfl, .ty "list", .base (.tup ha2), tup_list, _, rfl, .ref b', _, _, _, false, rfl, .ty "list", .base (.tup hb2), tup_list, rfl, false, rfl, iteF ?_⟩
    refine ⟨_, rfl, a, _, rfl, .inr (SqT.of ha2), _, rfl, b', _, rfl, .inr (SqT.of hb2), rfl, false, ?_, iteF ?_⟩
    · rw [hl, decide_eq_true rfl]
      rfl
    refine ⟨_, rfl, b', _, rfl, .inr (SqT.of hb2), _, rfl, by omega, by omega, fun D nD => lc_range (lo := 0) (n := ((ys.length : Nat) : Int).toNat) (fun i H' => H' D = some (.lst []) ∧ Same H2 H') ⟨upd_same, same_new nD⟩ ?_ ?_⟩
    · rintro i H3 hi ⟨hD, sm3⟩
      rw [Int.toNat_natCast] at hi
      rw [show (0 : Int) + (i : Int) = ((i : Nat) : Int) by omega]
      have hx : xs[i]? = some xs[i] := List.getElem?_eq_getElem (by omega)
      have hy : ys[i]? = some ys[i] := List.getElem?_eq_getElem hi
      refine ⟨rfl, _, rfl, _, rfl, a, _, _, _, rfl, rfl, SqT.of (sm3 _ _ ha2), at_of (j := i) rfl hx, _, rfl, _, rfl, b', _, _, _, rfl, rfl, SqT.of (sm3 _ _ hb2), at_of (j := i) rfl hy, ?_⟩
      exact each i _ _ hx hy H3 (sm2.trans sm3) _ fun H4 sm4 => ⟨true, rfl, sm4 _ _ hD, sm3.trans sm4⟩
    · rintro H3 ⟨hD, sm3⟩
      refine ⟨Nat.zero_le _, fun L nL => ?_⟩
      have hD4 : (upd H3 L (.lst [])) D = some (.lst []) := same_new nL _ _ hD
      refine ⟨_, _, .lst (SqL.of hD4) .nil, .lst (SqL.of upd_same) .nil, rfl, rfl, ?_⟩
      exact q _ (Same.new (sm2.trans sm3) nL)
end
end Ec
set_option Elab.async false
set_option linter.all false
set_option maxRecDepth 100000
set_option maxHeartbeats 8000000
/-! The law's own def. -/
namespace Ec
open PySem PySem.Spec PyProof.Rows L2
abbrev rListT (K : PySem.W.Frag) := Evl.rListS K
theorem call_listS {X : Cx} : CallR X (.type "list") (rListT X.K) := call_list_of
theorem seq_asg {te : TE} {g : TG} {u : TS} {D : Ends} {σ : L2.St} {H : Hp} (C : V → Hp → Prop) (h : ∀ Q' : VK, (∀ v H', C v H' → Q' v H') → te σ H Q') (k : ∀ v H', C v H' → g v σ H' (u D)) : tSeq (tAsg te g) u D σ H := h _ k
theorem to_next {D : Ends} {σ : L2.St} {H : Hp} (h : D.nx σ H) : tNext D σ H := h
/-- a def that may be called -/
def Callee (P : Program) (w : World) (K : PySem.W.Frag) (mg : Str → Option Value) (base : Heap) (k : Nat) (x : Str) (ps : List Str) (sp : Sp) : Prop :=
  ∃ (f : Addr) (fd : FuncData), FnOk P w K mg base CX0 k f fd ps sp ∧ PySem.W.keepIn K (.ref f) = true ∧ Binds K fd ps [] ∧ mg x = some (.ref f)
def spAlike : Sp := fun vs H Q E => spAlike0 vs H Q E ∨ spAlikeS spAlike0 vs H Q E ∨ spAlikeS (spAlikeS spAlike0) vs H Q E
theorem fn_or {P : Program} {w : World} {K : PySem.W.Frag} {mg : Str → Option Value} {base : Heap} {CX : CXT} {k : Nat} {f : Addr} {fd : FuncData} {ps : List Str} {sp sp' : Sp} (F : FnOk P w K mg base CX k f fd ps sp) (G : FnOk P w K mg base CX k f fd ps sp') :
    FnOk P w K mg base CX k f fd ps fun vs H Q E => sp vs H Q E ∨ sp' vs H Q E :=
  ⟨fun vs H Q E h => h.elim (F.len vs H Q E) (G.len vs H Q E), fun A outer s H args us vs Q E hr he hb hv h => h.elim (F.run A outer s H args us vs Q E hr he hb hv) (G.run A outer s H args us vs Q E hr he hb hv)⟩
/-- two answers of one square are alike -/
theorem alike_ans {sq : List Int} {v u : V} {H : Hp} {Q : VK} {E : XK} (hv : Ans sq v H) (hu : Ans sq u H) (q : ∀ H', Same H H' → Q (.bl true) H') : spAlike [v, u] H Q E := by
  rcases hv with ⟨rfl, c⟩ | ⟨p, s, a, m, rfl, hp, l⟩
  · rcases hu with ⟨rfl, _⟩ | ⟨p', s', a', m', rfl, hp', l'⟩
    · exact .inl ⟨.non, rfl, rfl, q⟩
    · exact absurd l'.is (c _ _ _)
  · rcases hu with ⟨rfl, c⟩ | ⟨p', s', a', m', rfl, hp', l'⟩
    · exact absurd l.is (c _ _ _)
    · obtain ⟨rfl, rfl, rfl⟩ := l.uniq l'
      refine .inr (.inl ⟨p, p', _, _, rfl, hp, hp', rfl, by show 3 ≤ 1000; decide, fun i x y hx hy H1 _ Q' q' => ?_, q⟩)
      obtain rfl : x = y := Option.some.inj (hx.symm.trans hy)
      exact ⟨x, rfl, plain_ints _ x (List.mem_of_getElem? hx), q'⟩
theorem alike_rows {sq : List Int} {t t' : Addr} {ps qs : List Addr} {H : Hp} {Q : VK} {E : XK} (S : Sq sq) (ht : H t = some (.tup (ps.map V.ref))) (ht' : H t' = some (.tup (qs.map V.ref))) (hl : ps.length = sq.length) (hl' : qs.length = sq.length)
    (R : Rows sq ps H) (R' : Rows sq qs H) (q : ∀ H', Same H H' → Q (.bl true) H') : spAlike [.ref t, .ref t'] H Q E := by
  have h30 := S.hi
  refine .inr (.inr ⟨t, t', _, _, rfl, ht, ht', by rw [List.length_map, List.length_map, hl, hl'], by rw [List.length_map]; omega, fun i x y hx hy H1 sm Q' q' => ?_, q⟩)
  rw [List.getElem?_map] at hx hy
  obtain ⟨b, hb, rfl⟩ := Option.map_eq_some_iff.mp hx
  obtain ⟨b', hb', rfl⟩ := Option.map_eq_some_iff.mp hy
  refine ⟨b, b', _, _, rfl, sm _ _ (R i b hb), sm _ _ (R' i b' hb'), rfl, by rw [ints_len]; unfold rowOf; rw [rowK_len]; omega, fun j z z' hz hz' H2 _ Q2 q2 => ?_, q'⟩
  obtain rfl : z = z' := Option.some.inj (hz.symm.trans hz')
  exact ⟨z, rfl, plain_ints _ z (List.mem_of_getElem? hz), q2⟩
/-- m is the greatest of 0 and the row -/
def Top (sq : List Int) (r : Nat) (m : Int) : Prop := m ∈ (0 : Int) :: rowOf sq r ∧ ∀ y ∈ (0 : Int) :: rowOf sq r, y ≤ m
theorem costas_max {sq ms : List Int} {M : Int} (S : Sq sq) (hl : ms.length + 1 = sq.length) (h : ∀ (j : Nat) m, ms[j]? = some m → Top sq (j + 1) m) (hM : M ∈ ms ++ [0]) (hle : ∀ y ∈ ms ++ [0], y ≤ M) : M ≤ 1 ↔ Costas sq := by
  rw [costas_iff S]
  constructor
  · intro h1 r r1 r2 x hx
    have hj : ms[r - 1]? = some ms[r - 1] := List.getElem?_eq_getElem (by omega)
    have t := h (r - 1) _ hj
    rw [show r - 1 + 1 = r by omega] at t
    have a1 := t.2 x (List.mem_cons_of_mem _ hx)
    have a2 := hle _ (List.mem_append_left _ (List.mem_of_getElem? hj))
    omega
  · intro hc
    rcases List.mem_append.mp hM with hm | hm
    · obtain ⟨j, hj⟩ := List.mem_iff_getElem?.mp hm
      have hjl := (List.getElem?_eq_some_iff.mp hj).1
      rcases List.mem_cons.mp (h j M hj).1 with z | z
      · omega
      · exact hc (j + 1) (by omega) (by omega) M z
    · have : M = 0 := List.mem_singleton.mp hm
      omega
section
variable {P : Program} {w : World} {K : PySem.W.Frag} {mg : Str → Option Value} {base : Heap}
theorem scLaw : FnScope ["_law_script", "_law_row", "_law_many", "_law_square_here", "_law_due", "_law_small", "_law_size", "_law_table", "_law_right", "_law_line", "_law_up", "_law_turn", "_law_at"] ["_law_script"] (defScope sLaw) :=
  ⟨rfl, rfl, rfl, by decide +kernel, rfl, by decide +kernel, by decide +kernel⟩
def spLaw (K : PySem.W.Frag) : Sp := fun vs H Q _ => ∃ (a : Addr) (ns : List Int), vs = [.ref a] ∧ SqL K H a (Ints ns) ∧ ∀ H', Q (.bl true) H'
theorem ok_law {f : Addr} {fd : FuncData} (F : Fun K "law" "law" sLaw f fd) (B : Bare mg)
    (cT : Callee P w K mg base 1 "_law_taken" ["_law_row", "_law_many"] (spTaken K)) (cP : Callee P w K mg base 2 "_law_pick" ["_law_row", "_law_things"] (spPick K)) (cD : Callee P w K mg base 2 "_law_square" ["_law_row", "_law_many"] (spDraw K))
    (cE : Callee P w K mg base 1 "_law_equal" ["_law_square_here"] spEqual) (cA : Callee P w K mg base 3 "_law_alike" ["_law_found", "_law_due"] spAlike) (cS : Callee P w K mg base 4 "equal_steps" ["square"] spEqual)
    (cC : Callee P w K mg base 4 "is_costas" ["square"] spCostas) (cB : Callee P w K mg base 4 "hit_table" ["square"] spTable) (cH : Callee P w K mg base 4 "hits" ["square", "right", "up"] spHits) :
    FnOk P w K mg base CX0 5 f fd ["_law_script"] (spLaw K) := by
  obtain ⟨fT, fdT, GT, kT, bT, gT⟩ := cT
  obtain ⟨fP, fdP, GP, kP, bP, gP⟩ := cP
  obtain ⟨fD, fdD, GD, kD, bD, gD⟩ := cD
  obtain ⟨fE, fdE, GE, kE, bE, gE⟩ := cE
  obtain ⟨fA, fdA, GA, kA, bA, gA⟩ := cA
  obtain ⟨fS, fdS, GS, kS, bS, gS⟩ := cS
  obtain ⟨fC, fdC, GC, kC, bC, gC⟩ := cC
  obtain ⟨fB, fdB, GB, kB, bB, gB⟩ := cB
  obtain ⟨fH, fdH, GH, kH, bH, gH⟩ := cH
  refine F.ok scLaw (fun vs H Q E h => ?_) (fun cdv A outer s H vs Q E hr h => ?_)
  · obtain ⟨a, ns, rfl, _⟩ := h
    rfl
  · obtain ⟨a, ns, rfl, hS, q⟩ := h
    have hr1 := hr.mono (j := 1) (by decide)
    have hr2 := hr.mono (j := 2) (by decide)
    have hr3 := hr.mono (j := 3) (by decide)
    refine ⟨_, pss_cons (ps_set (i := 1) scLaw.nd rfl (Or.inl rfl) (pe_lst (pa_cons (pv 0) (pa_cons pe_int (pa_cons pe_int (pa_cons pe_int pa_nil))))))
      (pss_cons (ps_set (i := 2) scLaw.nd rfl (Or.inl rfl) (pe_op op_add pe_int (pe_call GT hr1 (by rfl) gT kT bT .nil pass0 (pa_cons (pv 1) (pa_cons (pe_call GP hr2 (by rfl) gP kP bP .nil pass0 (pa_cons (pv 1) (pa_cons (pe_lst (pa_cons pe_int (pa_cons pe_int (pa_cons pe_int pa_nil)))) pa_nil))) pa_nil)))))
      (pss_cons (ps_set (i := 3) scLaw.nd rfl (Or.inl rfl) (pe_call GD hr2 (by rfl) gD kD bD .nil pass0 (pa_cons (pv 1) (pa_cons (pv 2) pa_nil))))
      (pss_cons (ps_set (i := 4) scLaw.nd rfl (Or.inl rfl) (pe_call GE hr1 (by rfl) gE kE bE .nil pass0 (pa_cons (pv 3) pa_nil)))
      (pss_cons (ps_if (PW.pt (pw_or (pt_not (pt_val (pe_call GA hr3 (by rfl) gA kA bA .nil pass0 (pa_cons (pe_call GS hr (by rfl) gS kS bS .nil pass0 (pa_cons (pv 3) pa_nil)) (pa_cons (pv 4) pa_nil)))))
          (pw_or1 (pt_not (pt_val (pe_call GA hr3 (by rfl) gA kA bA .nil pass0 (pa_cons (pe_call GC hr (by rfl) gC kC bC .nil pass0 (pa_cons (pv 3) pa_nil)) (pa_cons (pe_cmpR op_isN (pv 4) pe_non (nomark _)) pa_nil)))))))) pss_never pss_nil)
      (pss_cons (ps_set (i := 5) scLaw.nd rfl (Or.inr rfl) (pe_ifExp (pt_cmpR op_lt (pv 2) pe_int (nomark _)) (pv 3) (pe_call GD hr2 (by rfl) gD kD bD .nil pass0 (pa_cons (pv 1) (pa_cons pe_int pa_nil)))))
      (pss_cons (ps_asg (pe_tup (pa_cons (pe_callB call_lenS (by rfl) B.len PySem.boot_len (pa_cons (pv 5) pa_nil)) (pa_cons (pe_lst pa_nil) pa_nil))) (pg_tup rfl (pgs_cons (pg_name (i := 6) scLaw.nd rfl (Or.inr rfl)) (pgs_cons (pg_name (i := 7) scLaw.nd rfl (Or.inl rfl)) pgs_nil))))
      (pss_cons (ps_for PassesOwn.never rfl (pi_range1 rfl B.range (pa_cons (pv 6) pa_nil)) (pg_name (i := 8) scLaw.nd rfl (Or.inr rfl))
        (pss_cons (ps_set (i := 9) scLaw.nd rfl (Or.inl rfl) (pe_lst pa_nil))
        (pss_cons (ps_for PassesOwn.never rfl (pi_range2 (by rfl) B.range (pa_cons (pe_op op_sub pe_int (pv 6)) (pa_cons (pv 6) pa_nil))) (pg_name (i := 10) scLaw.nd rfl (Or.inr rfl))
          (pss_one (ps_expr (pe_bm PySem.F.plainAttrs_list PySem.F.slot_list_append PySem.F.type_list_append mt_append (pv 9) (pa_cons (pe_callB call_lenS (by rfl) B.len PySem.boot_len (pa_cons
            (pe_lc (own := [("_law_at", 12)]) (g := gName 12) rfl scLaw.nd (pi_range1 rfl B.range (pa_cons (pe_op op_sub (pv 6) (pv 8)) pa_nil)) (blkOk_by (N := ["_law_script", "_law_row", "_law_many", "_law_square_here", "_law_due", "_law_small", "_law_size", "_law_table", "_law_right", "_law_line", "_law_up", "_law_turn", "_law_at"]) (sc := defScope sLaw) (by decide +kernel))
              (fun _ _ _ _ _ => pg_name (i := 12) scLaw.nd rfl (Or.inl rfl))
              (fun _ _ _ _ _ => pts_one (pt_cmpR op_eq (pe_op op_add (pe_ix (r := rIxT K) ix_tup (pv 5) (pv 12) (fun _ _ => rfl)) (pv 10)) (pe_ix (r := rIxT K) ix_tup (pv 5) (pe_op op_add (pv 12) (pv 8)) (fun _ _ => rfl)) (nomark _)))
              (fun _ _ _ _ _ => pv 12)) pa_nil)) pa_nil)))))
        (pss_one (ps_expr (pe_bm PySem.F.plainAttrs_list PySem.F.slot_list_append PySem.F.type_list_append mt_append (pv 7) (pa_cons (pe_callTy call_tuple_of (by rfl) B.tuple (by decide +kernel) (pa_cons (pv 9) pa_nil)) pa_nil)))))))
      (pss_cons (ps_if (pt_not (pt_val (pe_call GA hr3 (by rfl) gA kA bA .nil pass0 (pa_cons (pe_call GB hr (by rfl) gB kB bB .nil pass0 (pa_cons (pv 5) pa_nil)) (pa_cons (pe_callTy call_tuple_of (by rfl) B.tuple (by decide +kernel) (pa_cons (pv 7) pa_nil)) pa_nil))))) pss_never pss_nil)
      (pss_cons (ps_for PassesOwn.never rfl (pi_range1 rfl B.range (pa_cons pe_int pa_nil)) (pg_name (i := 11) scLaw.nd rfl (Or.inl rfl))
        (pss_cons (ps_asg (pe_tup (pa_cons (pe_op op_sub (pe_op op_sub (pe_call GT hr1 (by rfl) gT kT bT .nil pass0 (pa_cons (pv 1) (pa_cons (pe_op op_add (pe_op op_mul pe_int (pv 6)) pe_int) pa_nil))) (pv 6)) pe_int)
            (pa_cons (pe_op op_sub (pe_op op_sub (pe_call GT hr1 (by rfl) gT kT bT .nil pass0 (pa_cons (pv 1) (pa_cons (pe_op op_add (pe_op op_mul pe_int (pv 6)) pe_int) pa_nil))) (pv 6)) pe_int) pa_nil)))
          (pg_tup rfl (pgs_cons (pg_name (i := 8) scLaw.nd rfl (Or.inr rfl)) (pgs_cons (pg_name (i := 10) scLaw.nd rfl (Or.inr rfl)) pgs_nil))))
        (pss_cons (ps_set (i := 4) scLaw.nd rfl (Or.inl rfl) (pe_callB call_lenS (by rfl) B.len PySem.boot_len (pa_cons
            (pe_lc (own := [("_law_at", 12)]) (g := gName 12) rfl scLaw.nd (pi_range1 rfl B.range (pa_cons (pv 6) pa_nil)) (blkOk_by (N := ["_law_script", "_law_row", "_law_many", "_law_square_here", "_law_due", "_law_small", "_law_size", "_law_table", "_law_right", "_law_line", "_law_up", "_law_turn", "_law_at"]) (sc := defScope sLaw) (by decide +kernel))
              (fun _ _ _ _ _ => pg_name (i := 12) scLaw.nd rfl (Or.inl rfl))
              (fun _ _ _ _ _ => pts_one (PW.pt (pw_and (pt_chain op_le op_lt pe_int (pe_op op_add (pv 12) (pv 8)) (pv 6))
                (pw_and1 (pt_cmpR op_eq (pe_op op_add (pe_ix (r := rIxT K) ix_tup (pv 5) (pv 12) (fun _ _ => rfl)) (pv 10)) (pe_ix (r := rIxT K) ix_tup (pv 5) (pe_op op_add (pv 12) (pv 8)) (fun _ _ => rfl)) (nomark _))))))
              (fun _ _ _ _ _ => pv 12)) pa_nil)))
        (pss_one (ps_if (pt_not (pt_val (pe_call GA hr3 (by rfl) gA kA bA .nil pass0 (pa_cons (pe_call GH hr (by rfl) gH kH bH .nil pass0 (pa_cons (pv 5) (pa_cons (pv 8) (pa_cons (pv 10) pa_nil)))) (pa_cons (pv 4) pa_nil))))) pss_never pss_nil)))))
      (pss_one (ps_ret (pe_cmpR op_eq (pe_cmpR op_le (pe_callB (cr_max rfl) (by rfl) B.max (by decide +kernel) (pa_cons (pe_op op_cat
          (pe_lc (own := [("_law_line", 9)]) (g := gName 9) (tt := tYes) rfl scLaw.nd (pi_list (pe_slice sl_list (pv 7) (po_some pe_int) po_none)) (blkOk_by (N := ["_law_script", "_law_row", "_law_many", "_law_square_here", "_law_due", "_law_small", "_law_size", "_law_table", "_law_right", "_law_line", "_law_up", "_law_turn", "_law_at"]) (sc := defScope sLaw) (by decide +kernel))
            (fun _ _ _ _ _ => pg_name (i := 9) scLaw.nd rfl (Or.inl rfl)) (fun _ _ _ _ _ => pts_nil)
            (fun _ _ _ _ _ => pe_callB (r := rMax K) (cr_max rfl) (by rfl) B.max (by decide +kernel) (pa_cons (pe_op op_cat (pe_lst (pa_cons pe_int pa_nil)) (pe_callTy (r := rListT K) call_listS (by rfl) B.list (by decide +kernel) (pa_cons (pv 9) pa_nil))) pa_nil)))
          (pe_lst (pa_cons pe_int pa_nil))) pa_nil)) pe_int (nomark _)) (pe_cmpR op_isN (pe_call GE hr1 (by rfl) gE kE bE .nil pass0 (pa_cons (pv 5) pa_nil)) pe_non (nomark _)) (nomark _))))))))))))), ?_⟩
    -- the row
    refine ⟨_, rfl, (show 4 ≤ sizeLine by decide), fun p np => ?_⟩
    have R1 : Row K p a ns (upd H p (.lst (rowV a 0 3535 0))) := ⟨(same_new np).seq hS, 0, 3535, 0, Int.le_refl 0, upd_same⟩
    have c1 : ∀ H', Q (.bl true) H' := q
    generalize hH1 : upd H p (.lst (rowV a 0 3535 0)) = H1 at R1
    have hH1' : upd H p (.lst [.ref a, .int 0, .int 3535, .int 0]) = H1 := hH1
    rw [hH1']
    clear hH1 hH1' hS
    -- _law_many
    refine ⟨_, rfl, _, rfl, by decide, fun l nl => ⟨p, a, l, ns, [5, 8, 30], rfl, R1.made nl, upd_same, by decide, by decide, fun v H2 hv R2 _ => ?_⟩⟩
    have hv' : 5 ≤ v ∧ v ≤ 30 := by
      rcases List.mem_cons.mp hv with z | hv
      · omega
      · rcases List.mem_cons.mp hv with z | hv
        · omega
        · have := List.mem_singleton.mp hv
          omega
    refine ⟨p, a, ns, v, rfl, R2, by omega, by omega, fun x H3 x0 x1 R3 _ => ⟨1, x, rfl, rfl, ?_⟩⟩
    clear R1 R2 nl hv
    obtain ⟨n, en⟩ : ∃ n : Nat, 1 + x = (n : Int) := ⟨(1 + x).toNat, by omega⟩
    -- _law_square_here
    refine ⟨_, rfl, _, rfl, p, a, ns, n, ?_, R3, by omega, by omega, fun t sq H4 S len ht R4 _ => ?_⟩
    · show [V.ref p, V.int (1 + x)] = _
      rw [en]
    -- _law_due
    refine ⟨_, rfl, t, sq, rfl, ht, S, fun dv H5 sm5 an5 => ?_⟩
    -- the two answers
    refine ⟨_, rfl, t, sq, rfl, sm5 _ _ ht, S, fun ev H6 sm6 an6 => ⟨_, rfl, alike_ans an6 (an5.same sm6) fun H7 sm7 => ⟨true, rfl, iteF ?_⟩⟩⟩
    have ht7 := sm7 _ _ (sm6 _ _ (sm5 _ _ ht))
    have an7 := (an5.same sm6).same sm7
    have R7 : Row K p a ns H7 := R4.same ((sm5.trans sm6).trans sm7)
    clear ht an5 R4 an6 sm5 sm6 sm7 R3
    refine ⟨_, rfl, t, sq, rfl, ht7, S, fun b H8 sm8 hb => ⟨_, rfl, rfl, .inl ⟨.bl b, ?_, rfl, fun H9 sm9 => ⟨true, rfl, iteF ?_⟩⟩⟩⟩
    · have e : decide (dv = V.non) = b := by
        have i1 := an7.none_iff
        cases b with
        | true => exact i1.mpr (hb.mp rfl)
        | false =>
          refine Bool.eq_false_iff.mpr fun z => ?_
          have := hb.mpr (i1.mp z)
          cases this
      show [V.bl b, V.bl (decide (dv = V.non))] = _
      rw [e]
    have ht9 := sm9 _ _ (sm8 _ _ ht7)
    have R9 : Row K p a ns H9 := R7.same (sm8.trans sm9)
    clear ht7 an7 R7 sm8 sm9 hb
    -- _law_small
    refine to_next ?_
    dsimp only
    refine seq_asg (fun v H' => ∃ (t2 : Addr) (sq2 : List Int), v = .ref t2 ∧ Sq sq2 ∧ H' t2 = some (.tup (Ints sq2)) ∧ Row K p a ns H') (fun Q' k => ?_) ?_
    · refine ⟨_, rfl, _, 9, rfl, rfl, _, rfl, ite2 (fun _ => ⟨_, rfl, k _ _ ⟨t, sq, rfl, S, ht9, R9⟩⟩) (fun _ => ?_)⟩
      exact ⟨_, rfl, p, a, ns, 4, rfl, R9, by omega, by omega, fun t2 sq2 H10 S2 _ ht2 R10 _ => k _ _ ⟨t2, sq2, rfl, S2, ht2, R10⟩⟩
    rintro _ H10 ⟨t2, sq2, rfl, S2, ht2, R10⟩
    have h30 := S2.hi
    have h01 := S2.lo
    clear ht9 R9
    -- _law_size, _law_table
    refine ⟨_, rfl, t2, _, rfl, .inr (SqT.of ht2), Nat.zero_le _, fun T nT => ⟨(show 2 ≤ sizeLine by decide), fun U nU => ?_⟩⟩
    refine ⟨U, _, rfl, SqT.of upd_same, rfl, _, _, rfl, _, _, rfl, rfl, ?_⟩
    rw [ints_len]
    have sm11 : Same H10 (upd (upd H10 T (.lst [])) U (.tup [.int ((sq2.length : Nat) : Int), .ref T])) := (same_new nT).new nU
    have hT11 : (upd (upd H10 T (.lst [])) U (.tup [.int ((sq2.length : Nat) : Int), .ref T])) T = some (.lst []) := same_new nU _ _ upd_same
    generalize upd (upd H10 T (.lst [])) U (.tup [.int ((sq2.length : Nat) : Int), .ref T]) = H11 at sm11 hT11 ⊢
    clear nU U
    -- the table
    refine ⟨_, rfl, _, rfl, by omega, by omega, for_range (lo := 0) (n := ((sq2.length : Nat) : Int).toNat) (fun r σ H' => ∃ (o8 o9 o10 : Option V) (ps : List Addr),
      σ = [some (.ref a), some (.ref p), some (.int (1 + x)), some (.ref t), some dv, some (.ref t2), some (.int ((sq2.length : Nat) : Int)), some (.ref T), o8, o9, o10, none, none] ∧ Same H10 H' ∧ H' T = some (.lst (ps.map V.ref)) ∧ ps.length = r ∧ Rows sq2 ps H')
      ⟨none, none, none, [], rfl, sm11, hT11, rfl, fun r b e => nomatch e⟩ ?_ ?_⟩
    · rintro r σ H12 hr12 ⟨o8, o9, o10, ps, rfl, sm12, hT12, el, Rw⟩
      rw [Int.toNat_natCast] at hr12
      rw [show (0 : Int) + (r : Int) = ((r : Nat) : Int) by omega]
      refine ⟨Nat.zero_le _, fun l nl => ?_⟩
      have sm13 : Same H12 (upd H12 l (.lst [])) := same_new nl
      refine ⟨_, rfl, _, _, rfl, rfl, _, rfl, _, _, rfl, by omega, for_range (lo := 1 - ((sq2.length : Nat) : Int)) (n := (((sq2.length : Nat) : Int) - (1 - ((sq2.length : Nat) : Int))).toNat) (fun j σ H' => ∃ o10 : Option V,
        σ = [some (.ref a), some (.ref p), some (.int (1 + x)), some (.ref t), some dv, some (.ref t2), some (.int ((sq2.length : Nat) : Int)), some (.ref T), some (.int ((r : Nat) : Int)), some (.ref l), o10, none, none] ∧ Same H12 H' ∧ H' l = some (.lst (Ints ((rowOf sq2 r).take j))))
        ⟨o10, rfl, sm13, upd_same⟩ ?_ ?_⟩
      · rintro j σ H14 hj ⟨o10, rfl, sm14, hl14⟩
        have eu : (1 : Int) - ((sq2.length : Nat) : Int) + (j : Int) = ((j : Nat) : Int) - (((sq2.length : Nat) : Int) - 1) := by omega
        rw [eu]
        have hj2 : j < 2 * sq2.length - 1 := by omega
        generalize hu : ((j : Nat) : Int) - (((sq2.length : Nat) : Int) - 1) = u
        have htt := SqT.of (K := K) (sm14 _ _ (sm12 _ _ ht2))
        refine ⟨_, rfl, .inl ⟨rfl, _, SqL.of hl14⟩, _, rfl, _, rfl, _, _, rfl, rfl, _, rfl, by omega, by omega, fun D nD => lc_range (lo := 0) (n := (((sq2.length : Nat) : Int) - ((r : Nat) : Int)).toNat)
          (fun i H' => H' D = some (.lst (Ints (places (on sq2 r u) i))) ∧ Same H14 H') ⟨upd_same, same_new nD⟩ ?_ ?_⟩
        · rintro i H15 hi ⟨hD, sm15⟩
          rw [show (0 : Int) + (i : Int) = ((i : Nat) : Int) by omega]
          have ht15 := sm15.tup htt
          refine ⟨rfl, _, rfl, _, rfl, t2, _, _, _, rfl, rfl, ht15, at_of (j := i) rfl (ints_at (by omega)), _, rfl, _, _, rfl, rfl, _, rfl, _, rfl, _, rfl, _, _, rfl, rfl, t2, _, _, _, rfl, rfl, ht15, at_of (j := i + r) (by omega) (ints_at (by omega)), rfl, _, rfl, ite2 (fun e => ?_) (fun e => ?_)⟩
          · have ft : on sq2 r u i = true := decide_eq_true (V.int.inj (of_decide_eq_true e))
            refine ⟨_, rfl, _, hD, ?_, ?_, sm15.wr nD⟩
            · rw [ints_len, places_len]
              have := cnt_le (on sq2 r u) i
              exact small1000 (by omega)
            · rw [upd_same, places_yes ft]
          · have ff : ¬ on sq2 r u i = true := fun z => e (decide_eq_true (congrArg V.int (of_decide_eq_true z)))
            refine ⟨?_, sm15⟩
            rw [places_no ff]
            exact hD
        · rintro H15 ⟨hD, sm15⟩
          refine ⟨D, _, rfl, .inl (SqL.of hD), l, _, _, rfl, rfl, sm15 _ _ hl14, ?_, _, rfl, ?_, ?_⟩
          · rw [ints_len, List.length_take]
            exact small1000 (by unfold rowOf; rw [rowK_len]; omega)
          · exact (sm14.trans sm15).wr nl
          · rw [upd_same, ints_len, places_len, List.take_add_one]
            have at_j : (rowOf sq2 r)[j]? = some ((cnt (on sq2 r u) (sq2.length - r) : Nat) : Int) := by
              rw [← hu]
              exact rowK_at sq2 r (sq2.length - r) hj2
            rw [at_j, show (((sq2.length : Nat) : Int) - ((r : Nat) : Int)).toNat = sq2.length - r by omega]
            show _ = some (HO.lst (List.map V.int (_ ++ [_])))
            rw [List.map_append]
            rfl
      · rintro σ H14 ⟨o10, rfl, sm14, hl14⟩
        rw [List.take_of_length_le (by unfold rowOf; rw [rowK_len]; omega)] at hl14
        have hT14 := sm14 _ _ hT12
        refine ⟨_, rfl, .inl ⟨rfl, _, SqL.of hT14⟩, _, rfl, l, _, rfl, .inl ⟨SqL.of hl14, fun z nz => ?_⟩⟩
        have sm15 : Same H12 (upd H14 z (.tup (Ints (rowOf sq2 r)))) := sm14.new nz
        have hT15 := sm15 _ _ hT12
        refine ⟨T, _, .ref z, rfl, rfl, hT15, ?_, _, _, _, ps ++ [z], rfl, (sm12.trans sm15).wr nT, ?_, ?_, ((Rw.same sm15).snoc (by rw [upd_same, el])).wr hT15⟩
        · rw [List.length_map]
          exact small1000 (by omega)
        · rw [upd_same, List.map_append]
          rfl
        · rw [List.length_append, el]
          rfl
    rintro σ H12 ⟨o8, o9, o10, ps, rfl, sm12, hT12, el, Rw⟩
    rw [Int.toNat_natCast] at el
    have ht12 := sm12 _ _ ht2
    have R12 : Row K p a ns H12 := R10.same sm12
    clear sm11 hT11 sm12 ht2 R10 nT
    -- hit_table
    refine ⟨_, rfl, t2, sq2, rfl, ht12, S2, fun tb qs H13 sm13 htb elq Rq => ⟨_, rfl, T, _, rfl, .inl ⟨SqL.of (sm13 _ _ hT12), fun z nz => alike_rows S2 (same_new nz _ _ htb) upd_same elq el (Rq.same (same_new nz)) ((Rw.same sm13).same (same_new nz)) fun H14 sm14 => ⟨true, rfl, iteF ?_⟩⟩⟩⟩
    have sm := (sm13.new nz).trans sm14
    have hT14 := sm _ _ hT12
    have ht14 := sm _ _ ht12
    have Rw14 := Rw.same sm
    have R14 := R12.same sm
    clear sm13 htb elq Rq nz sm14 sm hT12 ht12 Rw R12
    have np : ∀ {b : Addr} {xs : List V}, H14 b = some (.tup xs) → b ≠ p := fun h => by
      obtain ⟨_, i, u, c, _, hp⟩ := R14
      exact ne_of h hp fun z => nomatch z
    have hTp : T ≠ p := by
      obtain ⟨_, i, u, c, _, hp⟩ := R14
      refine ne_of hT14 hp fun z => ?_
      have z' : ps.map V.ref = rowV a i u c := HO.lst.inj z
      cases ps with
      | nil => cases z'
      | cons b r =>
        cases r with
        | nil => cases (List.cons.inj z').2
        | cons b2 r2 => cases (List.cons.inj (List.cons.inj z').2).1
    -- four moves
    refine to_next ?_
    refine ⟨_, rfl, by decide, by decide, for_range (lo := 0) (n := (4 : Int).toNat) (fun i σ H' => ∃ o4 o8 o9 o10 o11 : Option V,
      σ = [some (.ref a), some (.ref p), some (.int (1 + x)), some (.ref t), o4, some (.ref t2), some (.int ((sq2.length : Nat) : Int)), some (.ref T), o8, o9, o10, o11, none] ∧ But p H14 H' ∧ Row K p a ns H')
      ⟨_, _, _, _, _, rfl, But.refl p H14, R14⟩ ?_ ?_⟩
    · rintro i σ H15 hi ⟨o4, o8, o9, o10, o11, rfl, b15, R15⟩
      refine ⟨_, rfl, _, rfl, _, _, rfl, rfl, .inl ⟨by decide, by decide⟩, _, 3, rfl, rfl, p, a, ns, _, rfl, R15, by omega, by omega, fun v1 H16 _ _ R16 b16 => ⟨_, rfl, _, _, rfl, rfl, _, 1, rfl, rfl, ?_⟩⟩
      refine ⟨_, rfl, _, rfl, _, _, rfl, rfl, .inl ⟨by decide, by decide⟩, _, 3, rfl, rfl, p, a, ns, _, rfl, R16, by omega, by omega, fun v2 H17 _ _ R17 b17 => ⟨_, rfl, _, _, rfl, rfl, _, 1, rfl, rfl, (show 2 ≤ sizeLine by decide), fun U nU => ?_⟩⟩
      refine ⟨U, _, rfl, SqT.of upd_same, rfl, _, _, rfl, _, _, rfl, rfl, ?_⟩
      dsimp only
      generalize v1 - ((sq2.length : Nat) : Int) - 1 = r
      generalize v2 - ((sq2.length : Nat) : Int) - 1 = u
      have b18 : But p H14 (upd H17 U (.tup [.int r, .int u])) := ((b15.trans b16).trans b17).new nU
      have R18 : Row K p a ns (upd H17 U (.tup [.int r, .int u])) := R17.made nU
      generalize upd H17 U (.tup [.int r, .int u]) = H18 at b18 R18 ⊢
      have ht18 := b18 _ _ (np ht14) ht14
      clear R17 b17 R16 b16 R15 b15 nU
      -- _law_due
      refine ⟨_, rfl, _, rfl, by omega, by omega, fun D nD => lc_range (lo := 0) (n := ((sq2.length : Nat) : Int).toNat) (fun i H' => H' D = some (.lst (Ints (places (fall sq2 r u) i))) ∧ Same H18 H') ⟨upd_same, same_new nD⟩ ?_ ?_⟩
      · rintro i H19 hi ⟨hD, sm19⟩
        rw [Int.toNat_natCast] at hi
        rw [show (0 : Int) + (i : Int) = ((i : Nat) : Int) by omega]
        have ht19 := SqT.of (K := K) (sm19 _ _ ht18)
        have off : ¬ fall sq2 r u i = true → H19 D = some (.lst (Ints (places (fall sq2 r u) (i + 1)))) ∧ Same H18 H19 := fun z => by
          rw [places_no z]
          exact ⟨hD, sm19⟩
        refine ⟨rfl, _, rfl, _, rfl, _, _, rfl, rfl, 0, _, rfl, rfl, _, rfl, ite2 (fun h1 => ?_) (fun h1 => ⟨false, rfl, iteF ?_⟩)⟩
        · refine ⟨_, rfl, _, _, rfl, rfl, _, rfl, ite2 (fun h2 => ?_) (fun h2 => ?_)⟩
          · have h1' : (0 : Int) ≤ (i : Int) + r := of_decide_eq_true h1
            have h2' : (i : Int) + r < ((sq2.length : Nat) : Int) := of_decide_eq_true h2
            refine ⟨_, rfl, _, rfl, t2, _, _, _, rfl, rfl, ht19, at_of (j := i) rfl (ints_at hi), _, rfl, _, _, rfl, rfl, _, rfl, _, rfl, _, rfl, _, _, rfl, rfl, t2, _, _, _, rfl, rfl, ht19, at_of (j := ((i : Int) + r).toNat) (by omega) (ints_at (by omega)), rfl, _, rfl, ite2 (fun e => ?_) (fun e => off fun z => ?_)⟩
            · have ft : fall sq2 r u i = true := decide_eq_true ⟨h1', h2', V.int.inj (of_decide_eq_true e)⟩
              refine ⟨_, rfl, _, hD, ?_, ?_, sm19.wr nD⟩
              · rw [ints_len, places_len]
                have := cnt_le (fall sq2 r u) i
                exact small1000 (by omega)
              · rw [upd_same, places_yes ft]
            · have z' := of_decide_eq_true (show decide _ = true from z)
              exact e (decide_eq_true (congrArg V.int z'.2.2))
          · refine off fun z => ?_
            have z' := of_decide_eq_true (show decide _ = true from z)
            exact h2 (decide_eq_true z'.2.1)
        · refine off fun z => ?_
          have z' := of_decide_eq_true (show decide _ = true from z)
          exact h1 (decide_eq_true z'.1)
      · rintro H19 ⟨hD, sm19⟩
        rw [Int.toNat_natCast] at hD
        refine ⟨D, _, rfl, .inl (SqL.of hD), ?_⟩
        rw [ints_len, places_len]
        refine ⟨_, rfl, _, rfl, _, rfl, t2, sq2, r, u, rfl, sm19 _ _ ht18, S2, fun H20 sm20 => ⟨_, rfl, .inl ⟨.int (hit sq2 r u), rfl, rfl, fun H21 sm21 => ⟨true, rfl, iteF ?_⟩⟩⟩⟩
        have sm := (sm19.trans sm20).trans sm21
        exact ⟨_, _, _, _, _, rfl, b18.trans (sm.but p), R18.same sm⟩
    rintro σ H15 ⟨o4, o8, o9, o10, o11, rfl, b15, R15⟩
    have ht15 := b15 _ _ (np ht14) ht14
    have hT15 := b15 _ _ hTp hT14
    have Rw15 : Rows sq2 ps H15 := fun r b e => b15 _ _ (np (Rw14 r b e)) (Rw14 r b e)
    clear b15 R15 np hTp R14 ht14 hT14 Rw14
    -- the greatest counts
    refine ⟨_, rfl, _, rfl, T, _, rfl, SqL.of hT15, fun c nc => ?_⟩
    have ec : cutV (ps.map V.ref) (some 1) none = (ps.drop 1).map V.ref := by
      rw [List.map_drop]
      exact cut_from (k := 1) (by rw [List.length_map]; omega)
    rw [ec]
    have sm16 : Same H15 (upd H15 c (.lst ((ps.drop 1).map V.ref))) := same_new nc
    have hc16 : (upd H15 c (.lst ((ps.drop 1).map V.ref))) c = some (.lst ((ps.drop 1).map V.ref)) := upd_same
    generalize upd H15 c (.lst ((ps.drop 1).map V.ref)) = H16 at sm16 hc16 ⊢
    have Rw16 := Rw15.same sm16
    have ht16 := sm16 _ _ ht15
    refine ⟨c, rfl, ⟨_, SqL.of hc16⟩, fun D nD => lc_list (K := K) (a := c) (xs := (ps.drop 1).map V.ref) (fun i H' => ∃ ms : List Int, H' D = some (.lst (Ints ms)) ∧ ms.length = i ∧ (∀ (j : Nat) m, ms[j]? = some m → Top sq2 (j + 1) m) ∧ Same H16 H')
      ⟨[], upd_same, rfl, fun j m e => (nomatch e), same_new nD⟩ (fun i H' _ ⟨_, _, _, _, sm⟩ => SqL.of (sm _ _ hc16)) ?_ ?_⟩
    · rintro i y H17 hy ⟨ms, hD, lm, tops, sm17⟩
      rw [List.getElem?_map, List.getElem?_drop] at hy
      obtain ⟨b, hb, rfl⟩ := Option.map_eq_some_iff.mp hy
      have hbl := (List.getElem?_eq_some_iff.mp hb).1
      have hrow := sm17 _ _ (Rw16 _ _ hb)
      refine ⟨rfl, (show 1 ≤ sizeLine by decide), fun z nz => ⟨_, rfl, b, _, rfl, .inr (SqT.of (same_new nz _ _ hrow)), fun y ny => ?_⟩⟩
      have hz : (upd (upd H17 z (.lst [.int 0])) y (.lst (Ints (rowOf sq2 (1 + i))))) z = some (.lst [.int 0]) := same_new ny _ _ upd_same
      have sm18 : Same H16 (upd (upd H17 z (.lst [.int 0])) y (.lst (Ints (rowOf sq2 (1 + i))))) := (sm17.new nz).new ny
      have hD18 : (upd (upd H17 z (.lst [.int 0])) y (.lst (Ints (rowOf sq2 (1 + i))))) D = some (.lst (Ints ms)) := same_new ny _ _ (same_new nz _ _ hD)
      refine ⟨z, y, _, _, rfl, rfl, hz, upd_same, ?_, fun e ne => ?_⟩
      · rw [ints_len]
        unfold rowOf
        rw [rowK_len]
        exact small30 (by show 1 + _ ≤ 1000; omega)
      · refine ⟨e, (0 : Int) :: rowOf sq2 (1 + i), rfl, SqL.of upd_same, Nat.succ_pos _, fun m hm hle => ⟨_, same_new ne _ _ hD18, ?_, ms ++ [m], ?_, ?_, fun j m' hj => ?_, (sm18.new ne).wr nD⟩⟩
        · rw [ints_len]
          exact small1000 (by omega)
        · rw [upd_same]
          show some (HO.lst (ms.map V.int ++ [V.int m])) = some (HO.lst ((ms ++ [m]).map V.int))
          rw [List.map_append]
          rfl
        · rw [List.length_append, lm]
          rfl
        · by_cases hjm : j < ms.length
          · rw [List.getElem?_append_left hjm] at hj
            exact tops j m' hj
          · rw [List.getElem?_append_right (by omega)] at hj
            have e0 : j - ms.length = 0 := by
              have h1 := (List.getElem?_eq_some_iff.mp hj).1
              have h2 : ([m] : List Int).length = 1 := rfl
              omega
            rw [e0] at hj
            obtain rfl : m = m' := Option.some.inj hj
            rw [show j + 1 = 1 + i by omega]
            exact ⟨hm, hle⟩
    · rintro H17 ⟨ms, hD, lm, tops, sm17⟩
      rw [List.length_map, List.length_drop] at lm
      refine ⟨(show 1 ≤ sizeLine by decide), fun z nz => ?_⟩
      have sm18 : Same H16 (upd H17 z (.lst [.int 0])) := sm17.new nz
      refine ⟨D, z, _, _, rfl, rfl, same_new nz _ _ hD, upd_same, ?_, fun e ne => ?_⟩
      · rw [ints_len]
        exact small30 (by show _ + 1 ≤ 1000; omega)
      · refine ⟨e, ms ++ [0], rfl, ?_, by rw [List.length_append]; exact Nat.succ_pos _, fun M hM hle => ?_⟩
        · refine SqL.of ?_
          rw [upd_same]
          show some (HO.lst (ms.map V.int ++ [V.int 0])) = some (HO.lst ((ms ++ [0]).map V.int))
          rw [List.map_append]
          rfl
        · refine ⟨M, 1, rfl, rfl, _, rfl, t2, sq2, rfl, (sm18.new ne) _ _ ht16, S2, fun v H18 _ an => ⟨rfl, rfl, ?_⟩⟩
          have e1 : decide (M ≤ 1) = decide (v = V.non) := by
            rw [Bool.eq_iff_iff, decide_eq_true_eq, an.none_iff]
            exact costas_max S2 (by omega) tops hM hle
          show Q (.bl (decide (V.bl (decide (M ≤ 1)) = V.bl (decide (v = V.non))))) _
          rw [e1, decide_eq_true rfl]
          exact q _
end
end Ec
set_option Elab.async false
set_option linter.all false
set_option maxRecDepth 100000
set_option maxHeartbeats 8000000
/-! What the top has written; the head. -/
namespace Ec
open PySem PySem.Spec PyProof.Rows L2
theorem all_mk {l : PySem.W.OpenLaw} {w : World} {K : PySem.W.Frag} {h : Heap} {mg : Str → Option Value} {fa f1 f2 f3 f4 f5 f6 f7 f8 f9 f10 f11 f12 f13 f14 f15 : Addr} {tM : Tok} (X : K.In h) (G : h.Ns mainGlobals mg) (hfa : mg "law" = some (.ref fa))
    {od1 an1 od2 an2 od3 an3 od4 an4 od5 an5 od6 an6 od7 an7 od8 an8 od9 an9 od10 an10 od11 an11 od12 an12 od13 an13 od14 an14 od15 an15 : Option Addr} {sl1 sl2 sl3 sl4 sl5 sl6 sl7 sl8 sl9 sl10 sl11 sl12 sl13 sl14 sl15 : Array (Option Value)} {oc1 kV1 dc1 pm1 cd1 ct1 oc2 kV2 dc2 pm2 cd2 ct2 oc3 kV3 dc3 pm3 cd3 ct3 oc4 kV4 dc4 pm4 cd4 ct4 oc5 kV5 dc5 pm5 cd5 ct5 oc6 kV6 dc6 pm6 cd6 ct6 oc7 kV7 dc7 pm7 cd7 ct7 oc8 kV8 dc8 pm8 cd8 ct8 oc9 kV9 dc9 pm9 cd9 ct9 oc10 kV10 dc10 pm10 cd10 ct10 oc11 kV11 dc11 pm11 cd11 ct11 oc12 kV12 dc12 pm12 cd12 ct12 oc13 kV13 dc13 pm13 cd13 ct13 oc14 kV14 dc14 pm14 cd14 ct14 oc15 kV15 dc15 pm15 cd15 ct15 : Value}
    (a1 : PySem.W.nsIn K mainGlobals "is_int" = some (some (.ref f1))) (l1 : K.lookup f1 = some ⟨oc1, od1, .func (PySem.W.fnOf "is_int" "is_int" (defArgs sIsInt) (defBody sIsInt) (defScope sIsInt) .none kV1 dc1 pm1 an1 cd1 ct1), sl1⟩) (c1 : PySem.W.codeIn K cd1 "is_int" = true) (k1 : PySem.W.keepIn K (.ref f1) = true)
    (a2 : PySem.W.nsIn K mainGlobals "is_in" = some (some (.ref f2))) (l2 : K.lookup f2 = some ⟨oc2, od2, .func (PySem.W.fnOf "is_in" "is_in" (defArgs sIsIn) (defBody sIsIn) (defScope sIsIn) .none kV2 dc2 pm2 an2 cd2 ct2), sl2⟩) (c2 : PySem.W.codeIn K cd2 "is_in" = true) (k2 : PySem.W.keepIn K (.ref f2) = true)
    (a3 : PySem.W.nsIn K mainGlobals "need_square" = some (some (.ref f3))) (l3 : K.lookup f3 = some ⟨oc3, od3, .func (PySem.W.fnOf "need_square" "need_square" (defArgs sNeed) (defBody sNeed) (defScope sNeed) .none kV3 dc3 pm3 an3 cd3 ct3), sl3⟩) (c3 : PySem.W.codeIn K cd3 "need_square" = true) (k3 : PySem.W.keepIn K (.ref f3) = true)
    (a4 : PySem.W.nsIn K mainGlobals "first_equal" = some (some (.ref f4))) (l4 : K.lookup f4 = some ⟨oc4, od4, .func (PySem.W.fnOf "first_equal" "first_equal" (defArgs sFirst) (defBody sFirst) (defScope sFirst) .none kV4 dc4 pm4 an4 cd4 ct4), sl4⟩) (c4 : PySem.W.codeIn K cd4 "first_equal" = true) (k4 : PySem.W.keepIn K (.ref f4) = true)
    (a5 : PySem.W.nsIn K mainGlobals "least_equal" = some (some (.ref f5))) (l5 : K.lookup f5 = some ⟨oc5, od5, .func (PySem.W.fnOf "least_equal" "least_equal" (defArgs sLeast) (defBody sLeast) (defScope sLeast) .none kV5 dc5 pm5 an5 cd5 ct5), sl5⟩) (c5 : PySem.W.codeIn K cd5 "least_equal" = true) (k5 : PySem.W.keepIn K (.ref f5) = true)
    (a6 : PySem.W.nsIn K mainGlobals "equal_steps" = some (some (.ref f6))) (l6 : K.lookup f6 = some ⟨oc6, od6, .func (PySem.W.fnOf "equal_steps" "equal_steps" (defArgs sSteps) (defBody sSteps) (defScope sSteps) .none kV6 dc6 pm6 an6 cd6 ct6), sl6⟩) (c6 : PySem.W.codeIn K cd6 "equal_steps" = true) (k6 : PySem.W.keepIn K (.ref f6) = true)
    (a7 : PySem.W.nsIn K mainGlobals "is_costas" = some (some (.ref f7))) (l7 : K.lookup f7 = some ⟨oc7, od7, .func (PySem.W.fnOf "is_costas" "is_costas" (defArgs sCostas) (defBody sCostas) (defScope sCostas) .none kV7 dc7 pm7 an7 cd7 ct7), sl7⟩) (c7 : PySem.W.codeIn K cd7 "is_costas" = true) (k7 : PySem.W.keepIn K (.ref f7) = true)
    (a8 : PySem.W.nsIn K mainGlobals "hits" = some (some (.ref f8))) (l8 : K.lookup f8 = some ⟨oc8, od8, .func (PySem.W.fnOf "hits" "hits" (defArgs sHits) (defBody sHits) (defScope sHits) .none kV8 dc8 pm8 an8 cd8 ct8), sl8⟩) (c8 : PySem.W.codeIn K cd8 "hits" = true) (k8 : PySem.W.keepIn K (.ref f8) = true)
    (a9 : PySem.W.nsIn K mainGlobals "hit_table" = some (some (.ref f9))) (l9 : K.lookup f9 = some ⟨oc9, od9, .func (PySem.W.fnOf "hit_table" "hit_table" (defArgs sTable) (defBody sTable) (defScope sTable) .none kV9 dc9 pm9 an9 cd9 ct9), sl9⟩) (c9 : PySem.W.codeIn K cd9 "hit_table" = true) (k9 : PySem.W.keepIn K (.ref f9) = true)
    (a10 : PySem.W.nsIn K mainGlobals "_law_taken" = some (some (.ref f10))) (l10 : K.lookup f10 = some ⟨oc10, od10, .func (PySem.W.fnOf "_law_taken" "_law_taken" (defArgs sTaken) (defBody sTaken) (defScope sTaken) .none kV10 dc10 pm10 an10 cd10 ct10), sl10⟩) (c10 : PySem.W.codeIn K cd10 "_law_taken" = true) (k10 : PySem.W.keepIn K (.ref f10) = true)
    (a11 : PySem.W.nsIn K mainGlobals "_law_pick" = some (some (.ref f11))) (l11 : K.lookup f11 = some ⟨oc11, od11, .func (PySem.W.fnOf "_law_pick" "_law_pick" (defArgs sPick) (defBody sPick) (defScope sPick) .none kV11 dc11 pm11 an11 cd11 ct11), sl11⟩) (c11 : PySem.W.codeIn K cd11 "_law_pick" = true) (k11 : PySem.W.keepIn K (.ref f11) = true)
    (a12 : PySem.W.nsIn K mainGlobals "_law_alike" = some (some (.ref f12))) (l12 : K.lookup f12 = some ⟨oc12, od12, .func (PySem.W.fnOf "_law_alike" "_law_alike" (defArgs sAlike) (defBody sAlike) (defScope sAlike) .none kV12 dc12 pm12 an12 cd12 ct12), sl12⟩) (c12 : PySem.W.codeIn K cd12 "_law_alike" = true) (k12 : PySem.W.keepIn K (.ref f12) = true)
    (a13 : PySem.W.nsIn K mainGlobals "_law_square" = some (some (.ref f13))) (l13 : K.lookup f13 = some ⟨oc13, od13, .func (PySem.W.fnOf "_law_square" "_law_square" (defArgs sDraw) (defBody sDraw) (defScope sDraw) .none kV13 dc13 pm13 an13 cd13 ct13), sl13⟩) (c13 : PySem.W.codeIn K cd13 "_law_square" = true) (k13 : PySem.W.keepIn K (.ref f13) = true)
    (a14 : PySem.W.nsIn K mainGlobals "_law_equal" = some (some (.ref f14))) (l14 : K.lookup f14 = some ⟨oc14, od14, .func (PySem.W.fnOf "_law_equal" "_law_equal" (defArgs sEqual) (defBody sEqual) (defScope sEqual) .none kV14 dc14 pm14 an14 cd14 ct14), sl14⟩) (c14 : PySem.W.codeIn K cd14 "_law_equal" = true) (k14 : PySem.W.keepIn K (.ref f14) = true)
    (a15 : PySem.W.nsIn K mainGlobals "law" = some (some (.ref f15))) (l15 : K.lookup f15 = some ⟨oc15, od15, .func (PySem.W.fnOf "law" "law" (defArgs sLaw) (defBody sLaw) (defScope sLaw) .none kV15 dc15 pm15 an15 cd15 ct15), sl15⟩) (c15 : PySem.W.codeIn K cd15 "law" = true) (k15 : PySem.W.keepIn K (.ref f15) = true)
    (aM : PySem.W.nsIn K mainGlobals "MOST_SQUARE" = some (some (.int 30 tM)))
    (z1 : PySem.W.nsIn K mainGlobals "len" = some none) (z2 : PySem.W.nsIn K mainGlobals "range" = some none) (z3 : PySem.W.nsIn K mainGlobals "isinstance" = some none) (z4 : PySem.W.nsIn K mainGlobals "int" = some none) (z5 : PySem.W.nsIn K mainGlobals "bool" = some none) (z6 : PySem.W.nsIn K mainGlobals "str" = some none) (z7 : PySem.W.nsIn K mainGlobals "tuple" = some none) (z8 : PySem.W.nsIn K mainGlobals "list" = some none) (z9 : PySem.W.nsIn K mainGlobals "all" = some none) (z10 : PySem.W.nsIn K mainGlobals "set" = some none) (z11 : PySem.W.nsIn K mainGlobals "enumerate" = some none) (z12 : PySem.W.nsIn K mainGlobals "max" = some none) :
    ∃ fd : FuncData, (∀ (s : Shared) (v : Value), BindsTo s fd ⟨[v], []⟩ [("_law_script", v)]) ∧ ∀ base : Heap, K.In base → base.Ns mainGlobals mg → FnOk l.prog w K mg base CX0 5 fa fd ["_law_script"] (spLaw K) := by
  cases hfa.symm.trans (PySem.W.mg_of X G a15)
  have B : Bare mg := ⟨PySem.W.mg_none_of X G z1, PySem.W.mg_none_of X G z2, PySem.W.mg_none_of X G z3, PySem.W.mg_none_of X G z4, PySem.W.mg_none_of X G z5, PySem.W.mg_none_of X G z6, PySem.W.mg_none_of X G z7, PySem.W.mg_none_of X G z8, PySem.W.mg_none_of X G z9, PySem.W.mg_none_of X G z10, PySem.W.mg_none_of X G z11, PySem.W.mg_none_of X G z12⟩
  have F1 := fun_mk (st := sIsInt) l1 c1 k1
  have g1 := PySem.W.mg_of X G a1
  have b1 := F1.binds (ps := ["value"]) fun _ _ _ _ _ _ us hl => match us, hl with | [_], _ => rfl
  have F2 := fun_mk (st := sIsIn) l2 c2 k2
  have g2 := PySem.W.mg_of X G a2
  have b2 := F2.binds (ps := ["value", "least", "most"]) fun _ _ _ _ _ _ us hl => match us, hl with | [_, _, _], _ => rfl
  have F3 := fun_mk (st := sNeed) l3 c3 k3
  have g3 := PySem.W.mg_of X G a3
  have b3 := F3.binds (ps := ["value"]) fun _ _ _ _ _ _ us hl => match us, hl with | [_], _ => rfl
  have F4 := fun_mk (st := sFirst) l4 c4 k4
  have g4 := PySem.W.mg_of X G a4
  have b4 := F4.binds (ps := ["square"]) fun _ _ _ _ _ _ us hl => match us, hl with | [_], _ => rfl
  have F5 := fun_mk (st := sLeast) l5 c5 k5
  have g5 := PySem.W.mg_of X G a5
  have b5 := F5.binds (ps := ["square", "step"]) fun _ _ _ _ _ _ us hl => match us, hl with | [_, _], _ => rfl
  have F6 := fun_mk (st := sSteps) l6 c6 k6
  have g6 := PySem.W.mg_of X G a6
  have b6 := F6.binds (ps := ["square"]) fun _ _ _ _ _ _ us hl => match us, hl with | [_], _ => rfl
  have F7 := fun_mk (st := sCostas) l7 c7 k7
  have g7 := PySem.W.mg_of X G a7
  have b7 := F7.binds (ps := ["square"]) fun _ _ _ _ _ _ us hl => match us, hl with | [_], _ => rfl
  have F8 := fun_mk (st := sHits) l8 c8 k8
  have g8 := PySem.W.mg_of X G a8
  have b8 := F8.binds (ps := ["square", "right", "up"]) fun _ _ _ _ _ _ us hl => match us, hl with | [_, _, _], _ => rfl
  have F9 := fun_mk (st := sTable) l9 c9 k9
  have g9 := PySem.W.mg_of X G a9
  have b9 := F9.binds (ps := ["square"]) fun _ _ _ _ _ _ us hl => match us, hl with | [_], _ => rfl
  have F10 := fun_mk (st := sTaken) l10 c10 k10
  have g10 := PySem.W.mg_of X G a10
  have b10 := F10.binds (ps := ["_law_row", "_law_many"]) fun _ _ _ _ _ _ us hl => match us, hl with | [_, _], _ => rfl
  have F11 := fun_mk (st := sPick) l11 c11 k11
  have g11 := PySem.W.mg_of X G a11
  have b11 := F11.binds (ps := ["_law_row", "_law_things"]) fun _ _ _ _ _ _ us hl => match us, hl with | [_, _], _ => rfl
  have F12 := fun_mk (st := sAlike) l12 c12 k12
  have g12 := PySem.W.mg_of X G a12
  have b12 := F12.binds (ps := ["_law_found", "_law_due"]) fun _ _ _ _ _ _ us hl => match us, hl with | [_, _], _ => rfl
  have F13 := fun_mk (st := sDraw) l13 c13 k13
  have g13 := PySem.W.mg_of X G a13
  have b13 := F13.binds (ps := ["_law_row", "_law_many"]) fun _ _ _ _ _ _ us hl => match us, hl with | [_, _], _ => rfl
  have F14 := fun_mk (st := sEqual) l14 c14 k14
  have g14 := PySem.W.mg_of X G a14
  have b14 := F14.binds (ps := ["_law_square_here"]) fun _ _ _ _ _ _ us hl => match us, hl with | [_], _ => rfl
  have F15 := fun_mk (st := sLaw) l15 c15 k15
  have g15 := PySem.W.mg_of X G a15
  refine ⟨PySem.W.fnOf "law" "law" (defArgs sLaw) (defBody sLaw) (defScope sLaw) .none kV15 dc15 pm15 an15 cd15 ct15, fun s v => .of_eq rfl, fun base _ _ => ?_⟩
  have G1 : FnOk l.prog w K mg base CX0 1 f1 _ ["value"] spIsInt := ok_isInt F1 B
  have G2 : FnOk l.prog w K mg base CX0 2 f2 _ ["value", "least", "most"] spIsIn := ok_isIn F2 F1 b1 g1 B
  have G3 : FnOk l.prog w K mg base CX0 3 f3 _ ["value"] spNeed := ok_need F3 G2 k2 b2 g2 (PySem.W.mg_of X G aM) B
  have G4 : FnOk l.prog w K mg base CX0 2 f4 _ ["square"] spEqual := ok_first F4 F5 b5 g5 B
  have GS : FnOk l.prog w K mg base CX0 4 f6 _ ["square"] spEqual := ok_steps F6 G3 k3 b3 g3 G4 k4 b4 g4
  have GC : FnOk l.prog w K mg base CX0 4 f7 _ ["square"] spCostas := ok_costas F7 G3 k3 b3 g3 G4 k4 b4 g4
  have GH : FnOk l.prog w K mg base CX0 4 f8 _ ["square", "right", "up"] spHits := ok_hits F8 G3 k3 b3 g3 G1 k1 b1 g1 B
  have GB : FnOk l.prog w K mg base CX0 4 f9 _ ["square"] spTable := ok_table F9 G3 k3 b3 g3 B
  have GT : FnOk l.prog w K mg base CX0 1 f10 _ ["_law_row", "_law_many"] (spTaken K) := ok_taken F10 B
  have GP : FnOk l.prog w K mg base CX0 2 f11 _ ["_law_row", "_law_things"] (spPick K) := ok_pick F11 F10 b10 g10 B
  have GD : FnOk l.prog w K mg base CX0 2 f13 _ ["_law_row", "_law_many"] (spDraw K) := ok_draw F13 F10 b10 g10 B
  have GE : FnOk l.prog w K mg base CX0 1 f14 _ ["_law_square_here"] spEqual := ok_equal F14 B
  have A0 : FnOk l.prog w K mg base CX0 1 f12 _ ["_law_found", "_law_due"] spAlike0 := ok_alike0 F12 B
  have A1 := ok_alikeS F12 A0 b12 g12 B
  have A2 := ok_alikeS F12 A1 b12 g12 B
  have GA : FnOk l.prog w K mg base CX0 3 f12 _ ["_law_found", "_law_due"] spAlike := fn_or (A0.mono (by decide)) (fn_or (A1.mono (by decide)) A2)
  exact ok_law F15 B ⟨f10, _, GT, k10, b10, g10⟩ ⟨f11, _, GP, k11, b11, g11⟩ ⟨f13, _, GD, k13, b13, g13⟩ ⟨f14, _, GE, k14, b14, g14⟩ ⟨f12, _, GA, k12, b12, g12⟩ ⟨f6, _, GS, k6, b6, g6⟩ ⟨f7, _, GC, k7, b7, g7⟩ ⟨f9, _, GB, k9, b9, g9⟩ ⟨f8, _, GH, k8, b8, g8⟩
end Ec
open PySem PySem.W PyProof.Rows in
set_option maxRecDepth 100000 in
set_option maxHeartbeats 0 in
theorem PySem.Challenge.cw_echowords_k35_whole_equal_steps_holds : PySem.Challenge.rw_echowords_k35_whole_equal_steps.Holds := by
  w_on; o_law; k_head; (case hw => w_witness2)
  k_fill
  refine L2.walk_ofK (l := PySem.Challenge.rw_echowords_k35_whole_equal_steps) (n := 63) (k := 5) (x := "_law_script") (CX := L2.CX0) (sp := Ec.spLaw) rfl (by decide) rfl ⟨rfl, by decide, by decide⟩ (fun w h Y => PySem.W.kIn_of Y) ?F (fun _ _ a ns _ _ hS => ⟨a, ns, rfl, hS, fun _ => rfl⟩) (fun _ _ _ _ z => z)
  case F =>
    intro w mg fa h KX G hmg
    refine' Ec.all_mk KX G hmg ?a1 ?l1 ?c1 ?k1 ?a2 ?l2 ?c2 ?k2 ?a3 ?l3 ?c3 ?k3 ?a4 ?l4 ?c4 ?k4 ?a5 ?l5 ?c5 ?k5 ?a6 ?l6 ?c6 ?k6 ?a7 ?l7 ?c7 ?k7 ?a8 ?l8 ?c8 ?k8 ?a9 ?l9 ?c9 ?k9 ?a10 ?l10 ?c10 ?k10 ?a11 ?l11 ?c11 ?k11 ?a12 ?l12 ?c12 ?k12 ?a13 ?l13 ?c13 ?k13 ?a14 ?l14 ?c14 ?k14 ?a15 ?l15 ?c15 ?k15 ?aM ?z1 ?z2 ?z3 ?z4 ?z5 ?z6 ?z7 ?z8 ?z9 ?z10 ?z11 ?z12
    (case a1 => k_is)
    (case l1 => k_is)
    (case c1 => k_is)
    (case k1 => k_is)
    (case a2 => k_is)
    (case l2 => k_is)
    (case c2 => k_is)
    (case k2 => k_is)
    (case a3 => k_is)
    (case l3 => k_is)
    (case c3 => k_is)
    (case k3 => k_is)
    (case a4 => k_is)
    (case l4 => k_is)
    (case c4 => k_is)
    (case k4 => k_is)
    (case a5 => k_is)
    (case l5 => k_is)
    (case c5 => k_is)
    (case k5 => k_is)
    (case a6 => k_is)
    (case l6 => k_is)
    (case c6 => k_is)
    (case k6 => k_is)
    (case a7 => k_is)
    (case l7 => k_is)
    (case c7 => k_is)
    (case k7 => k_is)
    (case a8 => k_is)
    (case l8 => k_is)
    (case c8 => k_is)
    (case k8 => k_is)
    (case a9 => k_is)
    (case l9 => k_is)
    (case c9 => k_is)
    (case k9 => k_is)
    (case a10 => k_is)
    (case l10 => k_is)
    (case c10 => k_is)
    (case k10 => k_is)
    (case a11 => k_is)
    (case l11 => k_is)
    (case c11 => k_is)
    (case k11 => k_is)
    (case a12 => k_is)
    (case l12 => k_is)
    (case c12 => k_is)
    (case k12 => k_is)
    (case a13 => k_is)
    (case l13 => k_is)
    (case c13 => k_is)
    (case k13 => k_is)
    (case a14 => k_is)
    (case l14 => k_is)
    (case c14 => k_is)
    (case k14 => k_is)
    (case a15 => k_is)
    (case l15 => k_is)
    (case c15 => k_is)
    (case k15 => k_is)
    (case aM => k_is)
    (case z1 => k_is)
    (case z2 => k_is)
    (case z3 => k_is)
    (case z4 => k_is)
    (case z5 => k_is)
    (case z6 => k_is)
    (case z7 => k_is)
    (case z8 => k_is)
    (case z9 => k_is)
    (case z10 => k_is)
    (case z11 => k_is)
    (case z12 => k_is)
