import PyProof.Rows.All
import Wide.All
import OpenK.AllK
import Wide.FinOn
import HandS.ForMost
import HandS.Conv
import HandS.SortOrd
import HandS.Sort
import KE.SortData
import KE.GoesMore
import HandS.SortInts
import HandS.IsInst
import HandS.TupLe
import HandS.TupAny
import PySem.Challenge.RW_walledin_k02_whole_first_orders
set_option Elab.async false
set_option linter.all false
set_option maxRecDepth 100000
set_option maxHeartbeats 8000000
/-! K02Math -/
/-! The mathematics of the orders: walls, rooms come to, orders read from their end, the greedy order; no program here. -/
namespace K02

/-- a wall: its two rooms, its told side -/
structure Wall where
  lo : Int
  hi : Int
  sd : Int

/-- the rooms from which it may be set -/
def Wall.told (w : Wall) : List Int := if w.sd = 0 then [w.lo] else if w.sd = 1 then [w.hi] else [w.lo, w.hi]

structure WallOk (many : Int) (w : Wall) : Prop where
  lo0 : 0 ≤ w.lo
  lt : w.lo < w.hi
  hiN : w.hi < many
  s0 : 0 ≤ w.sd
  s2 : w.sd ≤ 2

structure YardOk (many : Int) (ws : List Wall) : Prop where
  one : 1 ≤ many
  nine : many ≤ 9
  twelve : ws.length ≤ 12
  walls : ∀ w ∈ ws, WallOk many w

theorem told_two {w : Wall} {r : Int} (h : r ∈ w.told) : r = w.lo ∨ r = w.hi := by
  unfold Wall.told at h
  split at h
  · exact .inl (by simpa using h)
  · split at h
    · exact .inr (by simpa using h)
    · simpa using h
theorem told_len (w : Wall) : w.told.length ≤ 2 := by
  unfold Wall.told
  split
  · exact Nat.le_succ 1
  · split
    · exact Nat.le_succ 1
    · exact Nat.le_refl 2

/-- rooms come to from outside through the gaps of a lot -/
inductive Reach (ws : List Wall) (lot : List Nat) : Int → Prop where
  | out : Reach ws lot 0
  | up {n : Nat} {w : Wall} : n ∈ lot → ws[n]? = some w → w.lo ∈ w.told → Reach ws lot w.lo → Reach ws lot w.hi
  | down {n : Nat} {w : Wall} : n ∈ lot → ws[n]? = some w → w.hi ∈ w.told → Reach ws lot w.hi → Reach ws lot w.lo

section
variable {ws : List Wall} {lot l m t f left : List Nat} {n c : Nat} {r : Int} {S : List Int}

theorem Reach.mono (h : ∀ n ∈ l, n ∈ m) (x : Reach ws l r) : Reach ws m r := by
  induction x with
  | out => exact .out
  | up a b c _ ih => exact .up (h _ a) b c ih
  | down a b c _ ih => exact .down (h _ a) b c ih

/-- a set of rooms out of which the wall's gap leads nowhere -/
def Shut (ws : List Wall) (S : List Int) (n : Nat) : Prop :=
  ∀ w, ws[n]? = some w → (w.lo ∈ w.told → w.lo ∈ S → w.hi ∈ S) ∧ (w.hi ∈ w.told → w.hi ∈ S → w.lo ∈ S)
theorem reach_in (h0 : (0 : Int) ∈ S) (h : ∀ n ∈ lot, Shut ws S n) (x : Reach ws lot r) : r ∈ S := by
  induction x with
  | out => exact h0
  | up a b c _ ih => exact (h _ a _ b).1 c ih
  | down a b c _ ih => exact (h _ a _ b).2 c ih

/-- the wall may be set from a room that one comes to through the lot -/
def Ready (ws : List Wall) (lot : List Nat) (n : Nat) : Prop := ∃ w, ws[n]? = some w ∧ ∃ r, r ∈ w.told ∧ Reach ws lot r
def Growth (ws : List Wall) (lot : List Nat) : Prop := ∀ n ∈ lot, Ready ws lot n
theorem Ready.mono (h : ∀ n ∈ l, n ∈ m) (x : Ready ws l c) : Ready ws m c := by
  obtain ⟨w, a, r, b, d⟩ := x
  exact ⟨w, a, r, b, d.mono h⟩
theorem Growth.same (h : ∀ n, n ∈ l ↔ n ∈ m) (x : Growth ws l) : Growth ws m := fun n hn =>
  (x n ((h n).mpr hn)).mono fun k hk => (h k).mp hk
theorem Ready.lt (x : Ready ws l c) : c < ws.length := by
  obtain ⟨w, a, _⟩ := x
  exact (List.getElem?_eq_some_iff.mp a).1

/-- an order of some walls, of which each may be set through the gaps of those behind it -/
inductive Tail (ws : List Wall) : List Nat → Prop where
  | nil : Tail ws []
  | cons {n : Nat} {t : List Nat} : Tail ws t → n ∉ t → Ready ws t n → Tail ws (n :: t)
theorem Tail.nodup (h : Tail ws t) : t.Nodup := by
  induction h with
  | nil => exact List.nodup_nil
  | cons _ a _ ih => exact List.nodup_cons.mpr ⟨a, ih⟩
theorem Tail.growth (h : Tail ws t) : Growth ws t := by
  induction h with
  | nil => exact fun n hn => absurd hn List.not_mem_nil
  | cons _ a b ih =>
    intro n hn
    rcases List.mem_cons.mp hn with e | hn
    · subst e
      exact b.mono fun k hk => List.mem_cons_of_mem _ hk
    · exact (ih n hn).mono fun k hk => List.mem_cons_of_mem _ hk
theorem Tail.lt (h : Tail ws t) : ∀ n ∈ t, n < ws.length := fun n hn => (h.growth n hn).lt
theorem Tail.at (h : Tail ws t) : ∀ {p : Nat} {n : Nat}, t[p]? = some n → Ready ws (t.drop (p + 1)) n := by
  induction h with
  | nil => intro p n e; simp at e
  | cons _ a b ih =>
    intro p n e
    cases p with
    | zero =>
      have e' := Option.some.inj e
      subst e'
      exact b
    | succ p => exact ih e

theorem all_in (hg : Growth ws lot) (ht : ∀ n ∈ lot, n ∉ t → ¬ Ready ws t n) : ∀ n ∈ lot, n ∈ t := by
  have hr : ∀ r, Reach ws lot r → Reach ws t r := by
    intro r x
    induction x with
    | out => exact .out
    | @up n w a b c _ ih =>
      by_cases hn : n ∈ t
      · exact .up hn b c ih
      · exact absurd ⟨w, b, w.lo, c, ih⟩ (ht n a hn)
    | @down n w a b c _ ih =>
      by_cases hn : n ∈ t
      · exact .down hn b c ih
      · exact absurd ⟨w, b, w.hi, c, ih⟩ (ht n a hn)
  intro n hn
  by_cases h : n ∈ t
  · exact h
  · obtain ⟨w, b, r, h1, h2⟩ := hg n hn
    exact absurd ⟨w, b, r, h1, hr _ h2⟩ (ht n hn h)
theorem grow_on (hg : Growth ws lot) (nd : lot.Nodup) : ∀ (k : Nat) (t : List Nat), Tail ws t → (∀ n ∈ t, n ∈ lot) → lot.length ≤ t.length + k → ∃ t', Tail ws t' ∧ t'.Perm lot := by
  intro k
  induction k with
  | zero =>
    intro t h hs hk
    by_cases q : ∃ n, n ∈ lot ∧ n ∉ t ∧ Ready ws t n
    · obtain ⟨n, h1, h2, h3⟩ := q
      have h4 : (n :: t).length ≤ lot.length := (List.nodup_cons.mpr ⟨h2, h.nodup⟩).length_le_of_subset fun a ha => by
        rcases List.mem_cons.mp ha with e | ha
        · rw [e]; exact h1
        · exact hs a ha
      rw [List.length_cons] at h4
      omega
    · exact ⟨t, h, (List.perm_ext_iff_of_nodup h.nodup nd).mpr fun a => ⟨hs a, all_in hg (fun n hn h2 h3 => q ⟨n, hn, h2, h3⟩) a⟩⟩
  | succ k ih =>
    intro t h hs hk
    by_cases q : ∃ n, n ∈ lot ∧ n ∉ t ∧ Ready ws t n
    · obtain ⟨n, h1, h2, h3⟩ := q
      refine ih (n :: t) (.cons h h2 h3) (fun a ha => ?_) (by rw [List.length_cons]; omega)
      rcases List.mem_cons.mp ha with e | ha
      · rw [e]; exact h1
      · exact hs a ha
    · exact ⟨t, h, (List.perm_ext_iff_of_nodup h.nodup nd).mpr fun a => ⟨hs a, all_in hg (fun n hn h2 h3 => q ⟨n, hn, h2, h3⟩) a⟩⟩
theorem growth_tail (hg : Growth ws lot) (nd : lot.Nodup) : ∃ t, Tail ws t ∧ t.Perm lot :=
  grow_on hg nd lot.length [] .nil (fun n hn => absurd hn List.not_mem_nil) (by simp)

/-! ### a lot without a wall; the walls that can go first -/
def less (left : List Nat) (c : Nat) : List Nat := left.filter fun x => !decide (x = c)
theorem mem_less : n ∈ less left c ↔ n ∈ left ∧ n ≠ c := by
  unfold less
  rw [List.mem_filter]
  simp
theorem less_nodup (h : left.Nodup) : (less left c).Nodup := h.sublist List.filter_sublist
theorem less_len (h : c ∈ left) : (less left c).length < left.length := by
  unfold less
  refine List.length_filter_lt_length_iff_exists.mpr ⟨c, h, ?_⟩
  simp
def Can (ws : List Wall) (left : List Nat) (c : Nat) : Prop := Growth ws (less left c) ∧ Ready ws (less left c) c
theorem cons_perm_less (h : (c :: t).Perm left) (nd : left.Nodup) : t.Perm (less left c) := by
  have n1 : (c :: t).Nodup := h.nodup_iff.mpr nd
  obtain ⟨n2, n3⟩ := List.nodup_cons.mp n1
  refine (List.perm_ext_iff_of_nodup n3 (less_nodup nd)).mpr fun a => ?_
  rw [mem_less, ← h.mem_iff, List.mem_cons]
  constructor
  · intro ha
    exact ⟨.inr ha, fun e => n2 (e ▸ ha)⟩
  · rintro ⟨e | ha, hne⟩
    · exact absurd e hne
    · exact ha
theorem tail_can (h : Tail ws (c :: t)) (p : (c :: t).Perm left) (nd : left.Nodup) : c ∈ left ∧ Can ws left c := by
  have q := cons_perm_less p nd
  refine ⟨p.mem_iff.mp List.mem_cons_self, ?_⟩
  cases h with
  | cons h1 h2 h3 => exact ⟨h1.growth.same fun n => q.mem_iff, h3.mono fun n hn => q.mem_iff.mp hn⟩
theorem exists_can (hg : Growth ws left) (nd : left.Nodup) (ne : left ≠ []) : ∃ c, c ∈ left ∧ Can ws left c := by
  obtain ⟨t, ht, p⟩ := growth_tail hg nd
  cases t with
  | nil => exact absurd p.nil_eq.symm ne
  | cons c t => exact ⟨c, tail_can ht p nd⟩

/-! ### the order of tuples -/
inductive LexLe : List Nat → List Nat → Prop where
  | nil {t : List Nat} : LexLe [] t
  | lt {a b : Nat} {s t : List Nat} : a < b → LexLe (a :: s) (b :: t)
  | eq {a : Nat} {s t : List Nat} : LexLe s t → LexLe (a :: s) (a :: t)
theorem LexLe.antisymm {s t : List Nat} (h : LexLe s t) (k : LexLe t s) : s = t := by
  induction h with
  | nil => cases k; rfl
  | lt h =>
    cases k with
    | lt k => omega
    | eq k => omega
  | eq h ih =>
    cases k with
    | lt k => omega
    | eq k => rw [ih k]
theorem LexLe.refl : ∀ s : List Nat, LexLe s s
  | [] => .nil
  | _ :: s => .eq (LexLe.refl s)

/-! ### the greedy orders -/
inductive First (ws : List Wall) : List Nat → List Nat → Prop where
  | nil : First ws [] []
  | cons {left f : List Nat} {c : Nat} : c ∈ left → Can ws left c → (∀ d ∈ left, Can ws left d → c ≤ d) → First ws (less left c) f → First ws left (c :: f)
inductive Last (ws : List Wall) : List Nat → List Nat → Prop where
  | nil : Last ws [] []
  | cons {left f : List Nat} {c : Nat} : c ∈ left → Can ws left c → (∀ d ∈ left, Can ws left d → d ≤ c) → Last ws (less left c) f → Last ws left (c :: f)
theorem can_tail (h1 : c ∈ left) (h2 : Can ws left c) (nd : left.Nodup) (ht : Tail ws f) (hp : f.Perm (less left c)) : Tail ws (c :: f) ∧ (c :: f).Perm left := by
  have hc : c ∉ f := fun h => (mem_less.mp (hp.mem_iff.mp h)).2 rfl
  refine ⟨.cons ht hc (h2.2.mono fun n hn => hp.mem_iff.mpr hn), (List.perm_ext_iff_of_nodup (List.nodup_cons.mpr ⟨hc, ht.nodup⟩) nd).mpr fun a => ?_⟩
  rw [List.mem_cons, hp.mem_iff, mem_less]
  constructor
  · rintro (e | h)
    · rw [e]; exact h1
    · exact h.1
  · intro h
    by_cases e : a = c
    · exact .inl e
    · exact .inr ⟨h, e⟩
theorem First.tail (h : First ws left f) (nd : left.Nodup) : Tail ws f ∧ f.Perm left := by
  induction h with
  | nil => exact ⟨.nil, List.Perm.refl _⟩
  | cons h1 h2 h3 _ ih =>
    obtain ⟨a, b⟩ := ih (less_nodup nd)
    exact can_tail h1 h2 nd a b
theorem Last.tail (h : Last ws left f) (nd : left.Nodup) : Tail ws f ∧ f.Perm left := by
  induction h with
  | nil => exact ⟨.nil, List.Perm.refl _⟩
  | cons h1 h2 h3 _ ih =>
    obtain ⟨a, b⟩ := ih (less_nodup nd)
    exact can_tail h1 h2 nd a b
theorem First.least (h : First ws left f) (nd : left.Nodup) : ∀ t, Tail ws t → t.Perm left → LexLe f t := by
  induction h with
  | nil => exact fun _ _ _ => .nil
  | @cons left f c h1 h2 h3 _ ih =>
    intro t ht hp
    cases t with
    | nil =>
      have e := hp.nil_eq
      rw [← e] at h1
      exact absurd h1 List.not_mem_nil
    | cons d t =>
      obtain ⟨k1, k2⟩ := tail_can ht hp nd
      by_cases e : c = d
      · subst e
        refine .eq (ih (less_nodup nd) t ?_ (cons_perm_less hp nd))
        cases ht with
        | cons a _ _ => exact a
      · exact .lt (Nat.lt_of_le_of_ne (h3 d k1 k2) e)
theorem Last.most (h : Last ws left f) (nd : left.Nodup) : ∀ t, Tail ws t → t.Perm left → LexLe t f := by
  induction h with
  | nil =>
    intro t _ hp
    have e := hp.symm.nil_eq
    rw [← e]
    exact .nil
  | @cons left f c h1 h2 h3 _ ih =>
    intro t ht hp
    cases t with
    | nil => exact .nil
    | cons d t =>
      obtain ⟨k1, k2⟩ := tail_can ht hp nd
      by_cases e : d = c
      · subst e
        refine .eq (ih (less_nodup nd) t ?_ (cons_perm_less hp nd))
        cases ht with
        | cons a _ _ => exact a
      · exact .lt (Nat.lt_of_le_of_ne (h3 d k1 k2) e)

/-! ### all walls -/
def every (ws : List Wall) : List Nat := List.range ws.length
theorem every_nodup : (every ws).Nodup := List.nodup_range
theorem every_mem : n ∈ every ws ↔ n < ws.length := List.mem_range
theorem every_len : (every ws).length = ws.length := List.length_range
theorem full_perm (h : Tail ws t) (hl : t.length = ws.length) : t.Perm (every ws) := by
  refine (List.perm_ext_iff_of_nodup h.nodup every_nodup).mpr fun a => ⟨fun ha => every_mem.mpr (h.lt a ha), fun ha => ?_⟩
  by_cases q : a ∈ t
  · exact q
  · have h4 : (a :: t).length ≤ (every ws).length := (List.nodup_cons.mpr ⟨q, h.nodup⟩).length_le_of_subset fun b hb => by
      rcases List.mem_cons.mp hb with e | hb
      · rw [e]; exact ha
      · exact every_mem.mpr (h.lt b hb)
    rw [List.length_cons, every_len] at h4
    omega

/-- the list of all orders -/
structure Words (ws : List Wall) (L : List (List Nat)) : Prop where
  mem : ∀ t, t ∈ L ↔ Tail ws t ∧ t.length = ws.length
  ord : L.Pairwise LexLe
theorem Words.growth {L : List (List Nat)} (W : Words ws L) : L ≠ [] ↔ Growth ws (every ws) := by
  constructor
  · intro h
    cases L with
    | nil => exact absurd rfl h
    | cons t L =>
      obtain ⟨a, b⟩ := (W.mem t).mp List.mem_cons_self
      exact a.growth.same fun n => (full_perm a b).mem_iff
  · intro h e
    obtain ⟨t, ht, p⟩ := growth_tail h every_nodup
    have q := (W.mem t).mpr ⟨ht, by rw [p.length_eq, every_len]⟩
    rw [e] at q
    exact absurd q List.not_mem_nil
theorem Words.first {L : List (List Nat)} (W : Words ws L) (h : First ws (every ws) f) : L[0]? = some f := by
  obtain ⟨a, b⟩ := h.tail every_nodup
  have q := (W.mem f).mpr ⟨a, by rw [b.length_eq, every_len]⟩
  cases L with
  | nil => exact absurd q List.not_mem_nil
  | cons t L =>
    obtain ⟨c, d⟩ := (W.mem t).mp List.mem_cons_self
    have h1 := h.least every_nodup t c (full_perm c d)
    rcases List.mem_cons.mp q with e | q
    · rw [e]; rfl
    · have h2 := (List.pairwise_cons.mp W.ord).1 f q
      rw [h1.antisymm h2]
      rfl
theorem pair_last {α : Type} {R : α → α → Prop} : ∀ {L : List α} {x y : α}, L.Pairwise R → L.getLast? = some y → x ∈ L → x = y ∨ R x y
  | [], _, _, _, _, h => absurd h List.not_mem_nil
  | [a], x, y, _, e, h => by
    have e1 : a = y := Option.some.inj e
    have e2 : x = a := by simpa using h
    exact .inl (e2.trans e1)
  | a :: b :: L, x, y, p, e, h => by
    have e' : (b :: L).getLast? = some y := by
      rw [List.getLast?_cons_cons] at e
      exact e
    obtain ⟨p1, p2⟩ := List.pairwise_cons.mp p
    rcases List.mem_cons.mp h with q | q
    · subst q
      exact .inr (p1 y (List.mem_of_getLast? e'))
    · exact pair_last p2 e' q
theorem Words.last {L : List (List Nat)} (W : Words ws L) (h : Last ws (every ws) f) : L.getLast? = some f := by
  obtain ⟨a, b⟩ := h.tail every_nodup
  have q := (W.mem f).mpr ⟨a, by rw [b.length_eq, every_len]⟩
  cases e : L.getLast? with
  | none =>
    rw [List.getLast?_eq_none_iff] at e
    rw [e] at q
    exact absurd q List.not_mem_nil
  | some y =>
    obtain ⟨c, d⟩ := (W.mem y).mp (List.mem_of_getLast? e)
    have h1 := h.most every_nodup y c (full_perm c d)
    rcases pair_last W.ord e q with r | r
    · rw [r]
    · rw [h1.antisymm r]

/-! ### numbers of rooms -/
theorem few_rooms : ∀ (k : Nat) (S : List Int), S.Nodup → (∀ x ∈ S, 0 ≤ x ∧ x < (k : Int)) → S.length ≤ k := by
  intro k
  induction k with
  | zero =>
    intro S _ h
    cases S with
    | nil => exact Nat.le_refl _
    | cons a S =>
      have := h a List.mem_cons_self
      omega
  | succ k ih =>
    intro S nd h
    have h1 := ih (S.erase (k : Int)) (nd.erase _) fun x hx => by
      obtain ⟨h2, h3⟩ := (nd.mem_erase_iff).mp hx
      have h4 := h x h3
      omega
    by_cases q : (k : Int) ∈ S
    · rw [List.length_erase_of_mem q] at h1
      omega
    · rw [List.erase_of_not_mem q] at h1
      omega
end
end K02

/-! K02Rules -/
/-! Two rules that the layer lacks: a for over enumerate(a tuple); sorted of tuples of whole numbers, any number of them. -/
namespace K02
open PySem PySem.Spec PyProof.Rows L2
open PySem.W (EachIs dataLe dataLe_eq dataLt dataLt_tuple dataLt_ints rowLt alike alike_ints alikeAll depth_ints keyToks each_mem sorted_data AllAlike sort_pairwise sortLe sortLe_total)

/-! ### enumerate(x), x anything whose iterator begins -/
set_option maxHeartbeats 2000000 in
theorem enum_one_meets {x : Value} {ob : Obj} {G : Heap → Prop} (BG : Begins x ob G) :
    Meets (Builtin.«enumerate.__new__» ⟨[.type "enumerate", x], []⟩) (fun _ R st => G st.heap ∧
      R (.ok (.ret (.ref (st.heap.push ob).objs.size))) { st with heap := (st.heap.push ob).push { cls := .type "enumerate", data := .fields #[.none, .bool false, .ref st.heap.objs.size, rawInt 0, .none, .none] } }) :=
  .of_wp fun prog w A R st hyp => by
    obtain ⟨hp, ge, dr, tk, os⟩ := st
    obtain ⟨hG, hyp⟩ := hyp
    have subE := sub_enumerate
    have begin_ : ∀ {B : Around} {E : Value → Shared → Prop} {Q : Value → Shared → Prop}, Q (.ref hp.objs.size) ⟨hp.push ob, ge, dr, tk, os⟩ → wpAny (model prog w) B (pyIter x) Q E ⟨hp, ge, dr, tk, os⟩ :=
      fun {B E Q} q => BG.iter prog w B E ⟨hp, ge, dr, tk, os⟩ Q hG q
    wp_walk using begin_
    refine wpAny_stack_any fun sk => wpAny_pure ?_
    split
    · rename_i c _ _ _ _ _
      cases (c == Value.type "enumerate")
      · wp_walk using begin_
        exact ⟨_, rfl, hyp⟩
      · wp_walk using begin_
        exact ⟨_, rfl, hyp⟩
    · wp_walk using begin_
      exact ⟨_, rfl, hyp⟩

section
variable {prog : Program} {w : World} {A : Around} {E : Value → Shared → Prop} {s : Shared}
theorem enum_one {x : Value} {ob : Obj} {G : Heap → Prop} {Q : Value → Shared → Prop} (BG : Begins x ob G) (hG : G s.heap)
    (fin : ∀ h2, IsEnum h2 (s.heap.objs.size + 1) s.heap.objs.size 0 .none → h2.get? s.heap.objs.size = some ob →
      (∀ b o, s.heap.get? b = some o → h2.get? b = some o) → Q (.ref (s.heap.objs.size + 1)) { s with heap := h2 }) :
    wpAny (model prog w) A (call (.type "enumerate") [x]) Q E s := by
  refine callType_new F.called_enumerate (by decide) (F.typeCall_enumerate_1 _) (F.newCall_enumerate_1 _) (fun made => F.args_object_init_2 made _) F.entry_enumerate_new (enum_one_meets BG) ⟨hG, ?_⟩
  have size1 : (s.heap.push ob).objs.size = s.heap.objs.size + 1 := Heap.size_push ..
  show _ ∧ _
  rw [size1]
  have at1 : IsEnum ((s.heap.push ob).push { cls := .type "enumerate", data := .fields #[.none, .bool false, .ref s.heap.objs.size, rawInt 0, .none, .none] }) (s.heap.objs.size + 1) s.heap.objs.size 0 .none := by
    have z := Heap.get?_push_size (s.heap.push ob) (o := { cls := .type "enumerate", data := .fields #[.none, .bool false, .ref s.heap.objs.size, rawInt 0, .none, .none] }) rfl
    rw [size1] at z
    exact z
  exact ⟨⟨_, at1, rfl⟩, fin _ at1 (Heap.get?_push_of_some _ (Heap.get?_push_size _ BG.free)) fun b o z => Heap.get?_push_of_some _ (Heap.get?_push_of_some _ z)⟩
end

/-- the tuple at a, each item in a new pair with its place -/
def ItEnT (K : PySem.W.Frag) (a : Addr) : It :=
  ⟨fun i H => ∃ (xs : List V) (x : V), SqT K H a xs ∧ xs[i]? = some x, fun i H v H' => ∃ T x, v = .ref T ∧ H T = none ∧ H' = upd H T (.tup [.int (i : Nat), x]) ∧ ∀ xs, SqT K H a xs → xs[i]? = some x, fun i H => ∃ xs : List V, SqT K H a xs ∧ xs.length = i⟩
theorem turn_enT {P : Program} {w : World} {K : PySem.W.Frag} {elts : List Expr} {kk : Nat} {tpos : Pos} (a e it : Addr) :
    Turn P w K (.Tuple elts kk tpos) (ItEnT K a) [e, it] e (fun i h => (∃ old, IsEnum h e it ((i : Nat) : Int) old) ∧ h.IsTupleIter it a i ∧ e ≠ it ∧ a ≠ it ∧ a ≠ e) where
  mem := by simp
  obj := fun i h st b hb => by
    obtain ⟨⟨old, q1⟩, ⟨o, q2, q3, q4⟩, _⟩ := st
    have z : b = e ∨ b = it := by simpa using hb
    rcases z with z | z
    · rw [z]
      exact ⟨_, q1, fun v q => nomatch q⟩
    · rw [z]
      exact ⟨o, q2, fun v q => by rw [q4] at q; cases q⟩
  keep := fun i h h' st k => by
    obtain ⟨⟨old, q1⟩, q2, q3⟩ := st
    exact ⟨⟨old, k e (by simp) _ q1⟩, q2.at fun o q => k it (by simp) o q, q3⟩
  item := by
    intro X hP hw hK hc i pins s σ H E I hf st hg
    subst hP hw hK
    obtain ⟨⟨old, q1⟩, q2, ne1, ne2, ne3⟩ := st
    obtain ⟨xs, x, hq, hx⟩ := hg
    obtain ⟨its, rv, p, hz⟩ := I.tuple hq
    obtain ⟨u, hu, ru⟩ := rv.get hx
    have le1 : e < s.heap.objs.size := Heap.lt_size q1
    have le2 : it < s.heap.objs.size := by
      obtain ⟨_, q, _⟩ := q2
      exact Heap.lt_size q
    have hin : i < its.toArray.size := by
      have := (List.getElem?_eq_some_iff.mp hu).1
      simpa using this
    refine wpAny_pyNext_enum_itemD (Draws.tuple (prog := X.prog) (w := X.w) (A := X.A.in1) (I.ok.hd hc) it a ne2 its.toArray) q1 ⟨q2, p⟩ hin ne1 ?_ fun v h' tk hP ho hs' hT hsz hk => ?_
    · simp only [List.mem_cons, List.not_mem_nil, or_false, not_or]
      exact ⟨ne1, fun z => ne3 z.symm⟩
    have ev : v = u := by
      have z1 : its.toArray[i]? = some u := by simpa using hu
      rw [z1] at hP
      exact (Option.some.inj hP).symm
    subst ev
    refine ⟨_, rfl, wpAny_letOwnedTupleGo_enum (s := { s with heap := h', toks := tk + 1 }) ho fun h'' he' sb => ?_⟩
    have hT2 : h''.get? s.heap.objs.size = some { cls := .type "tuple", data := .seq #[.int i tk, v] } := (sb.2 _ (Nat.ne_of_gt le1)).trans hT
    have new : ObjOk X.prog X.w (upd H s.heap.objs.size (.tup [.int (i : Nat), x])) h'' s.heap.objs.size (.tup [.int (i : Nat), x]) :=
      ⟨by show 2 ≤ sizeLine; decide, [.int i tk, v], .cons ⟨_, rfl⟩ (.cons ru .nil), ⟨_, hT2, rfl, _, rfl⟩⟩
    have I1 : Inv X pins σ (upd H s.heap.objs.size (.tup [.int (i : Nat), x])) { s with heap := h'', toks := tk + 1 } :=
      I.turnedNew (ch := [e, it]) (fun b ob hb q => (sb.2 b (fun z => hb (by simp [z]))).trans (hk b ob (fun z => hb (by simp [z])) (fun z => hb (by simp [z])) q)) hf (Nat.le_refl _) new
    refine ⟨.ref s.heap.objs.size, _, I1, rfl, ⟨_, x, rfl, I.hok.fresh (Nat.le_refl _), rfl, fun ys hy => by rw [I.tuple_inj hy hq]; exact hx⟩, ⟨⟨v, ?_⟩, hs'.1.at fun o q => (sb.2 it (Ne.symm ne1)).trans q, ne1, ne2, ne3⟩, fun b hb => ?_⟩
    · have e1 : ((i + 1 : Nat) : Int) = (i : Int) + 1 := by omega
      rw [e1]
      exact he'
    · have hb' : b < s.heap.objs.size := by
        have z : b = e ∨ b = it := by simpa using hb
        rcases z with z | z
        · rw [z]; exact le1
        · rw [z]; exact le2
      rw [upd_ne (Nat.ne_of_lt hb')]
      exact (hf b hb).1
  done := by
    intro X hP hw hK hc i pins s σ H E I hf st hg
    subst hP hw hK
    obtain ⟨⟨old, q1⟩, q2, ne1, ne2, ne3⟩ := st
    obtain ⟨xs, hq, hx⟩ := hg
    obtain ⟨its, rv, p, hz⟩ := I.tuple hq
    obtain ⟨f0, f1, f2, f3, f4, f5⟩ := hf it (by simp)
    have hl : its.toArray.size = i := by
      rw [List.size_toArray, ← rv.length]
      exact hx
    refine wpAny_pyNext_enum_endD (Draws.tuple (prog := X.prog) (w := X.w) (A := X.A.in1) (I.ok.hd hc) it a ne2 its.toArray) q1 (by rw [hl]; exact ⟨q2, p⟩) fun h' eb => ⟨rfl, I.turned (t' := s.toks) (fun b o hb q => eb b o hb q) f0 f1 f3 f4 f5⟩
  self := fun A i s Q E st h => by
    obtain ⟨⟨_, q1⟩, _⟩ := st
    exact wpAny_pyIter_enum q1 h
def iEnT (K : PySem.W.Frag) (ta : TA) : TI := fun σ H R => ta σ H fun vs H1 => ∃ a xs, vs = [.ref a] ∧ SqT K H1 a xs ∧ R (ItEnT K a) H1
theorem pi_enT {X : Cx} {e : Expr} {ta : TA} {p pos tpos : Pos} {elts : List Expr} {kk : Nat} (hg : Gl X "enumerate") (hm : X.mg "enumerate" = none) (ha : PA X [e] ta) (hs : starEach [e] X.env = [(false, eval e X.env)] := by rfl) :
    PI X (.Tuple elts kk tpos) (.Call (.Name "enumerate" p) [e] [] pos) (iEnT X.K ta) := by
  refine ⟨fun pins s σ H R I h => ?_⟩
  refine Call_ (ld_blt I hg hm boot_enumerate (PyProof.Rows.callWith_type1 (thn (ha.run pos pins s σ H _ I h) fun us s1 ⟨vs, H1, I1, r1, q1⟩ => ?_) hs rfl))
  obtain ⟨a, xs, ex, hq, q⟩ := q1
  subst ex
  cases r1 with
  | cons r rr =>
    cases rr
    cases r
    obtain ⟨its, rv, pt, hz⟩ := I1.tuple hq
    have la : a < s1.heap.objs.size := pt.lt
    refine enum_one (begins_tuple a its.toArray) pt fun h2 he hit hk => wpAny_pyIter_enum he ?_
    have I2 : Inv X pins σ H1 { s1 with heap := h2 } := I1.kept (t' := s1.toks) hk
    refine ⟨s1.heap.objs.size + 1, [s1.heap.objs.size + 1, s1.heap.objs.size], _, _, H1, rfl, I2, turn_enT a (s1.heap.objs.size + 1) s1.heap.objs.size, ⟨⟨.none, he⟩, ⟨_, hit, rfl, rfl⟩, Nat.succ_ne_self _, Nat.ne_of_lt la, Nat.ne_of_lt (Nat.lt_succ_of_lt la)⟩, fun b hb => ?_, q⟩
    have z : b = s1.heap.objs.size + 1 ∨ b = s1.heap.objs.size := by simpa using hb
    have le : s1.heap.objs.size ≤ b := by
      rcases z with z | z
      · rw [z]
        exact Nat.le_succ _
      · rw [z]
        exact Nat.le_refl _
    exact I1.fpOk le (I1.hok.fresh le)
/-- over a tuple that the body leaves as it is; the pair is a new tuple at T -/
theorem for_enT {K : PySem.W.Frag} {a : Addr} {xs : List V} {g : TG} {tb : TS} {D : Ends} {σ : L2.St} {H : Hp} (Pv : Nat → L2.St → Hp → Prop) (h0 : Pv 0 σ H) (hl : ∀ i σ H, i ≤ xs.length → Pv i σ H → SqT K H a xs)
    (hs : ∀ i x T σ H, xs[i]? = some x → H T = none → Pv i σ H → g (.ref T) σ (upd H T (.tup [.int (i : Nat), x])) fun σ2 H2 => tb { D with nx := Pv (i + 1), ct := Pv (i + 1), bk := D.nx } σ2 H2) (hd : ∀ σ H, Pv xs.length σ H → D.nx σ H) :
    ∃ W : Nat → Nat → L2.St → Hp → Prop, (∃ m, W 0 m σ H) ∧ ∀ i m σ H, W i m σ H →
      ((ItEnT K a).stop i H ∧ D.nx σ H) ∨ ((ItEnT K a).go i H ∧ ∃ N : L2.St → Hp → Prop, (∀ σ' H', N σ' H' → ∃ m', m' < m ∧ W (i + 1) m' σ' H') ∧ ∀ x H', (ItEnT K a).yld i H x H' → g x σ H' fun σ2 H2 => tb { D with nx := N, ct := N, bk := D.nx } σ2 H2) := by
  refine ⟨fun i m σ H => m = xs.length - i ∧ i ≤ xs.length ∧ Pv i σ H, ⟨xs.length, rfl, Nat.zero_le _, h0⟩, fun i m σ H hW => ?_⟩
  obtain ⟨em, hi, p⟩ := hW
  have q := hl i σ H hi p
  rcases Nat.lt_or_ge i xs.length with lt | ge
  · refine .inr ⟨⟨xs, xs[i], q, List.getElem?_eq_getElem lt⟩, Pv (i + 1), fun σ' H' p' => ⟨xs.length - (i + 1), by omega, rfl, lt, p'⟩, fun v H' y => ?_⟩
    obtain ⟨T, x, rfl, hT, rfl, fx⟩ := y
    exact hs i x T σ H (fx xs q) hT p
  · have e : i = xs.length := Nat.le_antisymm hi ge
    subst e
    exact .inl ⟨⟨xs, q, rfl⟩, hd σ H p⟩

/-! ### sorted of tuples of whole numbers -/
def encT (q : Addr × List Int) : PyData := .tuple (q.2.map .int)
/-- sorted(xs): a new list, rising; the tuples have an item at least, or there is at most one of them -/
def rSortT (K : PySem.W.Frag) : List V → Hp → VK → Prop := fun vs H Q => ∃ (a : Addr) (L : List (Addr × List Int)), vs = [V.ref a] ∧ SqL K H a (L.map fun q => V.ref q.1) ∧ (∀ q ∈ L, SqT K H q.1 (q.2.map V.int)) ∧ ((∀ q ∈ L, q.2 ≠ []) ∨ L.length < 2) ∧
  ∀ (L' : List (Addr × List Int)) (p : Addr), L'.Perm L → L'.Pairwise (fun q r => ¬ r.2 < q.2) → H p = none → Q (.ref p) (upd H p (.lst (L'.map fun q => V.ref q.1)))
theorem refs_each : ∀ {L : List (Addr × List Int)} {us : List Value}, Vals (L.map fun q => V.ref q.1) us → EachIs (fun v (q : Addr × List Int) => v = Value.ref q.1) us L
  | [], _, h => by
    cases h
    exact .nil
  | q :: L, _, h => by
    cases h with
    | cons r t => exact .cons r (refs_each t)
theorem each_refs : ∀ {L : List (Addr × List Int)} {us : List Value}, EachIs (fun v (q : Addr × List Int) => v = Value.ref q.1) us L → Vals (L.map fun q => V.ref q.1) us
  | [], _, h => by
    cases h
    exact .nil
  | q :: L, _, h => by
    cases h with
    | cons r t => exact .cons r (each_refs t)
theorem dp_ints {K : PySem.W.Frag} {H : Hp} : ∀ ns : List Int, DpAll K H (ns.map V.int) (ns.map PyData.int)
  | [] => .nil
  | n :: ns => .cons (.int n) (dp_ints ns)
theorem swo_none : SrtO.Swo (fun _ _ : Value => false) := ⟨fun _ _ h => absurd h (by decide), fun _ _ _ h _ => h⟩
theorem short_perm {α : Type} {l m : List α} (h : l.length < 2) (p : m.Perm l) : m = l := by
  have hl := p.length_eq
  match l, m, h with
  | [], [], _ => rfl
  | [], _ :: _, _ => simp at hl
  | [x], [y], _ =>
    have := p.mem_iff.mp (List.mem_singleton.mpr (rfl : y = y))
    rw [List.mem_singleton.mp this]
  | [_], [], _ => simp at hl
  | [_], _ :: _ :: _, _ => simp at hl
  | _ :: _ :: _, _, h => simp at h; omega
theorem le_encT (q r : Addr × List Int) : dataLe false encT q r = !decide (r.2 < q.2) := by
  rw [dataLe_eq]
  show (!dataLt (encT r) (encT q)) = _
  unfold encT
  rw [dataLt_tuple]
  rw [← dataLt_ints]
  rfl
section
variable {X : Cx}
theorem cr_sortT (hu : X.A.units + 64 < cLine) : CallR X (.builtin "sorted") (rSortT X.K) := by
  intro pins s σ H vs us Q I r h
  obtain ⟨a, L, rfl, hs, ht, hk, q⟩ := h
  obtain ⟨its, rv, hl, hz⟩ := I.list hs
  obtain ⟨u, rfl, ru⟩ := vals1 r
  obtain rfl : u = Value.ref a := ru
  have hlen : L.length = its.length := by
    have e := rv.length
    rw [List.length_map] at e
    exact e
  have hzL : L.length ≤ sizeLine := by
    rw [List.length_map] at hz
    exact hz
  have fin : ∀ (L' : List (Addr × List Int)) (out : List Value), Vals (L'.map fun q => V.ref q.1) out → L'.Perm L → L'.Pairwise (fun q r => ¬ r.2 < q.2) →
      EP X pins σ Q (.ref (s.heap.objs.size + 1)) { s with heap := sortedAll s.heap its out.toArray } := fun L' out h1 h2 h3 => by
    have kp : ∀ b o, s.heap.get? b = some o → (sortedAll s.heap its out.toArray).get? b = some o := fun b o e => sortedAll_old e
    obtain ⟨n, hn⟩ := sortedAll_at s.heap its out.toArray
    refine ⟨.ref (s.heap.objs.size + 1), upd H (s.heap.objs.size + 1) (.lst (L'.map fun q => V.ref q.1)), I.laid (t' := s.toks) kp (Nat.le_succ _) ⟨?_, out, n, h1, hn⟩, rfl, q L' _ h2 h3 (I.hok.fresh (Nat.le_succ _))⟩
    rw [List.length_map, h2.length_eq]
    exact hzL
  by_cases h2 : L.length < 2
  · refine SrtO.sorted_ord swo_none hl.isList (by rw [← hlen]; exact hzL) (fun h => absurd h (by omega)) fun out _ hb => ?_
    have e : out = its := short_perm (by omega) hb.perm
    rw [e]
    refine fin L its rv (List.Perm.refl _) ?_
    match L, h2 with
    | [], _ => exact List.Pairwise.nil
    | [_], _ => exact List.pairwise_singleton _ _
    | _ :: _ :: _, h => exact absurd h (by simp)
  · have hne : ∀ q ∈ L, q.2 ≠ [] := hk.resolve_right h2
    have er : EachIs (fun v (q : Addr × List Int) => ∃ as, Reads s.heap v (encT q) as) its L := by
      have base := each_mem (refs_each rv)
      refine base.mono fun v q hq => ?_
      obtain ⟨e, m⟩ := hq
      exact Dp.reads I (encT q) (.ref q.1) v (.tup (ht q m) (dp_ints q.2)) e
    refine sorted_data (enc := encT) (R := fun v (q : Addr × List Int) => v = Value.ref q.1) hl.isList (refs_each rv) er ?_ ?_ hzL ?_ fun out ho he => ?_
    · refine AllAlike.of fun x y => ?_
      show alike (.tuple (x.2.map .int)) (.tuple (y.2.map .int)) = true
      have z := alike_ints x.2 y.2
      simpa [alike] using z
    · refine .inl fun d hd => ?_
      obtain ⟨q, hq, rfl⟩ := List.mem_map.mp hd
      have := hne q hq
      match hq2 : q.2, this with
      | [], h => exact absurd rfl h
      | x :: r, _ => exact ⟨.int x, r.map .int, by unfold encT; rw [hq2]; rfl⟩
    · intro q _
      have e : (encT q).depth = 1 := by
        show PyData.depth (.tuple (q.2.map .int)) = 1
        rw [PyData.depth, depth_ints]
      rw [e]
      omega
    · refine fin _ out (each_refs he) (List.mergeSort_perm _ _) ?_
      have tot := sortLe_total (listOrd itemOrd) false fun q : Addr × List Int => keyToks (encT q)
      have pw := sort_pairwise (le := dataLe false encT) tot L
      refine pw.imp fun {x y} hxy => ?_
      rw [le_encT] at hxy
      simpa using hxy
end
end K02

/-! K02Sort -/
/-! sorted of a tuple of whole numbers. -/
namespace K02
open PySem PySem.Spec PyProof.Rows L2
section
variable {prog : Program} {w : World} {A : Around} {E : Value → Shared → Prop} {s : Shared}
theorem gather_tup {l : Addr} {vs : List Value} {Q : List Value → Shared → Prop} (hl : s.heap.IsTuple l vs.toArray) (small : vs.length ≤ sizeLine)
    (fin : Q vs { s with heap := (s.heap.push (seqObj "list" #[] 0)).update s.heap.objs.size (Obj.mapSeq (· ++ vs.toArray)) }) : wpAny (model prog w) A (collect (.ref l)) Q E s := by
  obtain ⟨ob, at1, cls1, ep, dat⟩ := id hl
  have at2 : (s.heap.push (seqObj "list" #[] 0)).get? l = some ob := Heap.get?_push_of_some _ at1
  have new1 : (s.heap.push (seqObj "list" #[] 0)).get? s.heap.objs.size = some (seqObj "list" #[] 0) := Heap.get?_push_size _ rfl
  unfold collect
  refine wpAny_bind (wpAny_runValue (codeAny_builtin entry_proto_collect' ?_))
  show wpAny _ _ (do again (.builtin "list.__iadd__" ⟨[← newList [], .ref l], []⟩)) _ _ s
  refine wpAny_bind (wpAny_newList (wpAny_pure ⟨Code.quiet_builtin _ (by decide +kernel), codeAny_builtin entry_list_iadd' ?_⟩))
  show wpAny _ _ (Builtin.List.listExtendWith (.ref s.heap.objs.size) (.ref l) (.ref s.heap.objs.size)) _ _ { s with heap := s.heap.push (seqObj "list" #[] 0) }
  unfold Builtin.List.listExtendWith
  refine wpAny_bind (wpAny_typeOf (T := "tuple") ⟨ob, at2, cls1⟩ ?_)
  rw [if_pos (by rw [show (Value.type "tuple" == Value.type "tuple") = true from rfl]; simp)]
  refine wpAny_bind (listItems_at at2 dat ?_)
  refine wpAny_bind (listItems_at (xs := #[]) (n := 0) new1 rfl ?_)
  rw [if_neg (by simp)]
  refine wpAny_bind (listUpdate_at (xs := #[]) (n := 0) new1 rfl ?_ (Nat.zero_le _) (by
    show (#[] ++ vs.toArray).size ≤ sizeLine + 1
    simp only [Array.size_append, List.size_toArray, List.length_nil]
    omega))
  refine wpAny_pure ?_
  show wpAny (model prog w) A (do
      let o ← load s.heap.objs.size
      match o.data with
      | .seq xs _ => pure xs.toList
      | _ => unsupported "internal:collect") Q E { s with heap := (s.heap.push (seqObj "list" #[] 0)).update s.heap.objs.size (Obj.mapSeq (· ++ vs.toArray)) }
  refine wpAny_bind (wpAny_load (get?_update_seq new1 _) ?_)
  show wpAny _ _ (pure ((#[] : Array Value) ++ vs.toArray).toList) Q E _
  rw [show ((#[] : Array Value) ++ vs.toArray).toList = vs by simp]
  exact wpAny_pure fin

theorem sorted_tup_ord {l : Addr} {vs : List Value} {ltv : Value → Value → Bool} {Q : Value → Shared → Prop} (O : SrtO.Swo ltv) (hl : s.heap.IsTuple l vs.toArray) (small : vs.length ≤ sizeLine)
    (hS : 2 ≤ vs.length → ∀ (g : Heap) (a : Addr), SrtO.SortableO prog w A.in1.in1 { s with heap := g } a vs ltv)
    (fin : ∀ out : List Value, SrtO.Srtd ltv out → SrtO.Stb ltv out vs → Q (.ref (s.heap.objs.size + 1)) { s with heap := sortedAll s.heap vs out.toArray }) :
    wpAny (model prog w) A (call (.builtin "sorted") [.ref l]) Q E s := by
  refine Calls.call_function_entry kind_sorted plain_sorted entry_sorted (args_sorted1 _) ?_
  unfold Builtin.«sorted»
  refine wpAny_bind (m := checkCount "sorted" 1 1 _) (wpAny_pure ?_)
  refine wpAny_bind (gather_tup hl small ?_)
  refine wpAny_bind (wpAny_newList ?_ small)
  have size1 : ((s.heap.push (seqObj "list" #[] 0)).update s.heap.objs.size (Obj.mapSeq (· ++ vs.toArray))).objs.size = s.heap.objs.size + 1 := by
    rw [Heap.size_update, size_push']
  have new2 : (((s.heap.push (seqObj "list" #[] 0)).update s.heap.objs.size (Obj.mapSeq (· ++ vs.toArray))).push (seqObj "list" vs.toArray 0)).get? (s.heap.objs.size + 1) = some (seqObj "list" vs.toArray 0) := by
    rw [← size1]
    exact Heap.get?_push_size _ rfl
  show wpAny _ _ _ _ _ { s with heap := ((s.heap.push (seqObj "list" #[] 0)).update s.heap.objs.size (Obj.mapSeq (· ++ vs.toArray))).push (seqObj "list" vs.toArray 0) }
  rw [size1]
  refine wpAny_bind (wpAny_holding (wpAny_call_entry slot_list_sort ⟨_, new2, rfl⟩ entry_list_sort (SrtO.list_sort_ord O new2 small (fun two => hS two _ _) fun out hs hb => ⟨_, rfl, ?_⟩) (args_list_sort _)))
  exact wpAny_pure ⟨_, rfl, fin out hs hb⟩
end
/-- sorted(t), t a tuple of whole numbers -/
def rSortTI (K : PySem.W.Frag) : List V → Hp → VK → Prop := fun vs H Q => ∃ (a : Addr) (ns : List Int), vs = [V.ref a] ∧ SqT K H a (ns.map V.int) ∧
  ∀ (ns' : List Int) (p : Addr), ns'.Perm ns → ns'.Pairwise (· ≤ ·) → H p = none → Q (.ref p) (upd H p (.lst (ns'.map V.int)))
theorem cr_sortTI {X : Cx} : CallR X (.builtin "sorted") (rSortTI X.K) := by
  intro pins s σ H vs us Q I r h
  obtain ⟨a, ns, rfl, ht, q⟩ := h
  obtain ⟨its, rv, pt, small⟩ := I.tuple ht
  rw [Vals.ref1 r]
  have hi := rv.ints
  refine sorted_tup_ord SrtO.swo_int pt (by rw [← rv.length]; exact small) (fun two _ _ => SrtO.ints_sortable hi two) fun out h1 h2 => ?_
  obtain ⟨k1, k2, k3⟩ := SrtO.ints_out hi h1 h2
  obtain ⟨ep, new⟩ := sortedAll_at s.heap its out.toArray
  refine ⟨.ref _, upd H (s.heap.objs.size + 1) (.lst ((out.map SrtO.iv).map V.int)), I.laid (t' := s.toks) (fun _ _ => sortedAll_old) (Nat.le_succ _) ⟨?_, out, ep, vals_of_ints k1, new⟩, rfl, q _ _ k2 k3 (I.hok.fresh (Nat.le_succ _))⟩
  rw [List.length_map, k2.length_eq]
  rw [List.length_map] at small
  exact small
end K02

/-! K02Text -/
/-! The text by places, scopes, heaps, promises. -/
namespace K02
open PySem PySem.Spec PyProof.Rows L2

/-! ### the text by places -/
def topS (i : Nat) : Stmt := PySem.Challenge.pw_walledin_k02_whole_first_orders.main.body.getD i (.Pass ⟨0, 0, 0, 0⟩)
abbrev sIsInt : Stmt := topS 7
abbrev sIsFrom : Stmt := topS 8
abbrev sIsWall : Stmt := topS 9
abbrev sNeedY : Stmt := topS 10
abbrev sSides : Stmt := topS 11
abbrev sEvery : Stmt := topS 12
abbrev sReached : Stmt := topS 13
abbrev sNeedO : Stmt := topS 15
abbrev sReady : Stmt := topS 16
abbrev sWrong : Stmt := topS 17
abbrev sIsOrd : Stmt := topS 18
abbrev sHas : Stmt := topS 19
abbrev sGrowth : Stmt := topS 20
abbrev sFirst : Stmt := topS 21
abbrev sLast : Stmt := topS 22
abbrev sTaken : Stmt := topS 24
abbrev sAlike : Stmt := topS 25
abbrev sIs : Stmt := topS 26
abbrev sYard : Stmt := topS 27
abbrev sLSides : Stmt := topS 28
abbrev sCome : Stmt := topS 29
abbrev sGrows : Stmt := topS 30
abbrev sWords : Stmt := topS 31
abbrev sLaw : Stmt := topS 32

/-! ### scopes -/
theorem scIsInt : FnScope ["value"] ["value"] (defScope sIsInt) := ⟨rfl, rfl, rfl, by decide +kernel, rfl, by decide +kernel, by decide +kernel⟩
theorem scIsFrom : FnScope ["value", "least", "most"] ["value", "least", "most"] (defScope sIsFrom) := ⟨rfl, rfl, rfl, by decide +kernel, rfl, by decide +kernel, by decide +kernel⟩
theorem scIsWall : FnScope ["value", "many", "low", "high", "side"] ["value", "many"] (defScope sIsWall) := ⟨rfl, rfl, rfl, by decide +kernel, rfl, by decide +kernel, by decide +kernel⟩
theorem scNeedY : FnScope ["value", "index", "wall"] ["value"] (defScope sNeedY) := ⟨rfl, rfl, rfl, by decide +kernel, rfl, by decide +kernel, by decide +kernel⟩
theorem scSides : FnScope ["wall", "low", "high", "side"] ["wall"] (defScope sSides) := ⟨rfl, rfl, rfl, by decide +kernel, rfl, by decide +kernel, by decide +kernel⟩
theorem scEvery : FnScope ["yard"] ["yard"] (defScope sEvery) := ⟨rfl, rfl, rfl, by decide +kernel, rfl, by decide +kernel, by decide +kernel⟩
theorem scReached : FnScope ["yard", "lot", "found", "rising", "number", "low", "high", "side", "one", "other"] ["yard", "lot"] (defScope sReached) := ⟨rfl, rfl, rfl, by decide +kernel, rfl, by decide +kernel, by decide +kernel⟩
theorem scNeedO : FnScope ["yard", "value", "one"] ["yard", "value"] (defScope sNeedO) := ⟨rfl, rfl, rfl, by decide +kernel, rfl, by decide +kernel, by decide +kernel⟩
theorem scReady : FnScope ["yard", "lot", "number", "rooms", "room"] ["yard", "lot", "number"] (defScope sReady) := ⟨rfl, rfl, rfl, by decide +kernel, rfl, by decide +kernel, by decide +kernel⟩
theorem scWrong : FnScope ["yard", "order", "place"] ["yard", "order"] (defScope sWrong) := ⟨rfl, rfl, rfl, by decide +kernel, rfl, by decide +kernel, by decide +kernel⟩
theorem scIsOrd : FnScope ["yard", "order"] ["yard", "order"] (defScope sIsOrd) := ⟨rfl, rfl, rfl, by decide +kernel, rfl, by decide +kernel, by decide +kernel⟩
theorem scHas : FnScope ["yard", "rooms", "wall", "room"] ["yard"] (defScope sHas) := ⟨rfl, rfl, rfl, by decide +kernel, rfl, by decide +kernel, by decide +kernel⟩
theorem scGrowth : FnScope ["yard", "lot", "rooms", "number", "room"] ["yard", "lot"] (defScope sGrowth) := ⟨rfl, rfl, rfl, by decide +kernel, rfl, by decide +kernel, by decide +kernel⟩
theorem scFirst : FnScope ["yard", "found", "left", "number", "rest", "one"] ["yard"] (defScope sFirst) := ⟨rfl, rfl, rfl, by decide +kernel, rfl, by decide +kernel, by decide +kernel⟩
theorem scLast : FnScope ["yard", "found", "left", "some", "number", "rest", "one"] ["yard"] (defScope sLast) := ⟨rfl, rfl, rfl, by decide +kernel, rfl, by decide +kernel, by decide +kernel⟩
theorem scTaken : FnScope ["_law_row", "_law_many", "_law_found", "_law_cell"] ["_law_row", "_law_many"] (defScope sTaken) := ⟨rfl, rfl, rfl, by decide +kernel, rfl, by decide +kernel, by decide +kernel⟩
theorem scAlike : FnScope ["_law_found", "_law_due", "_law_k"] ["_law_found", "_law_due"] (defScope sAlike) := ⟨rfl, rfl, rfl, by decide +kernel, rfl, by decide +kernel, by decide +kernel⟩
theorem scIs : FnScope ["_law_found", "_law_due"] ["_law_found", "_law_due"] (defScope sIs) := ⟨rfl, rfl, rfl, by decide +kernel, rfl, by decide +kernel, by decide +kernel⟩
theorem scYard : FnScope ["_law_row", "_law_rooms", "_law_shuts", "_law_either", "_law_many", "_law_found", "_law_room", "_law_low", "_law_turn", "_law_high"] ["_law_row", "_law_rooms", "_law_shuts", "_law_either"] (defScope sYard) := ⟨rfl, rfl, rfl, by decide +kernel, rfl, by decide +kernel, by decide +kernel⟩
theorem scLSides : FnScope ["_law_shut"] ["_law_shut"] (defScope sLSides) := ⟨rfl, rfl, rfl, by decide +kernel, rfl, by decide +kernel, by decide +kernel⟩
theorem scCome : FnScope ["_law_yard_here", "_law_lot", "_law_found", "_law_turn", "_law_number", "_law_shut", "_law_side", "_law_other"] ["_law_yard_here", "_law_lot"] (defScope sCome) := ⟨rfl, rfl, rfl, by decide +kernel, rfl, by decide +kernel, by decide +kernel⟩
theorem scGrows : FnScope ["_law_yard_here", "_law_order", "_law_place", "_law_rooms", "_law_side"] ["_law_yard_here", "_law_order"] (defScope sGrows) := ⟨rfl, rfl, rfl, by decide +kernel, rfl, by decide +kernel, by decide +kernel⟩
theorem scWords : FnScope ["_law_yard_here", "_law_found", "_law_turn", "_law_later", "_law_tail", "_law_rooms", "_law_number", "_law_side"] ["_law_yard_here"] (defScope sWords) := ⟨rfl, rfl, rfl, by decide +kernel, rfl, by decide +kernel, by decide +kernel⟩
theorem scLaw : FnScope ["_law_script", "_law_row", "_law_yard_here", "_law_words_here", "_law_due", "_law_big", "_law_first", "_law_last", "_law_rooms", "_law_good", "_law_shut", "_law_side"] ["_law_script"] (defScope sLaw) := ⟨rfl, rfl, rfl, by decide +kernel, rfl, by decide +kernel, by decide +kernel⟩

/-! ### heaps -/
theorem same_upd {H : Hp} {p : Addr} (o : HO) (h : H p = none) : Same H (upd H p o) := fun b x e => by
  rw [upd_ne (ne_of_none e h)]
  exact e
theorem Same.tup {K : PySem.W.Frag} {H H' : Hp} {a : Addr} {xs : List V} (e : Same H H') (h : SqT K H a xs) : SqT K H' a xs := by
  rcases h with (h | ⟨o, h⟩) | h
  · exact .inl (.inl (e _ _ h))
  · exact .inl (.inr ⟨o, e _ _ h⟩)
  · exact .inr h
/-- all that was tracked, but at one place, is as it was -/
def But (p : Addr) (H H' : Hp) : Prop := ∀ b o, b ≠ p → H b = some o → H' b = some o
theorem But.refl (p : Addr) (H : Hp) : But p H H := fun _ _ _ e => e
theorem But.trans {p : Addr} {H H1 H2 : Hp} (a : But p H H1) (b : But p H1 H2) : But p H H2 := fun c o n h => b c o n (a c o n h)
theorem Same.but {p : Addr} {H H' : Hp} (e : Same H H') : But p H H' := fun b o _ h => e b o h
theorem but_upd {H : Hp} {p : Addr} (o : HO) : But p H (upd H p o) := fun b u n h => by
  rw [upd_ne n]
  exact h
/-- a new object that is changed later on: what was tracked ahead of it is as it was -/
theorem But.same {p : Addr} {H H' : Hp} (e : But p H H') (h : H p = none) : Same H H' := fun b o q => e b o (ne_of_none q h) q
theorem Same.but_new {p : Addr} {H H1 H2 : Hp} (s : Same H H1) (n : H p = none) (e : But p H1 H2) : Same H H2 := fun b o q => e b o (ne_of_none q n) (s b o q)

/-- a lot, an order: the numbers of walls -/
def lotV (l : List Nat) : List V := l.map fun n : Nat => V.int (n : Int)
theorem lotV_len (l : List Nat) : (lotV l).length = l.length := List.length_map _
theorem lotV_at {l : List Nat} {i n : Nat} (h : l[i]? = some n) : (lotV l)[i]? = some (.int (n : Int)) := by
  unfold lotV
  rw [List.getElem?_map, h]
  rfl
/-- the other way -/
theorem lotV_inv {l : List Nat} {i : Nat} {v : V} (h : (lotV l)[i]? = some v) : ∃ n, l[i]? = some n ∧ v = .int (n : Int) := by
  unfold lotV at h
  rw [List.getElem?_map] at h
  cases e : l[i]? with
  | none =>
    rw [e] at h
    cases h
  | some n =>
    rw [e] at h
    exact ⟨n, rfl, (Option.some.inj h).symm⟩
def wallV (w : Wall) : List V := [.int w.lo, .int w.hi, .int w.sd]
/-- a yard at y: its many, its tuple of walls at wa, the walls at as -/
def YardAt (K : PySem.W.Frag) (H : Hp) (y : Addr) (many : Int) (ws : List Wall) : Prop :=
  ∃ (wa : Addr) (as : List Addr), SqT K H y [.int many, .ref wa] ∧ SqT K H wa (as.map V.ref) ∧ as.length = ws.length ∧ ∀ (i : Nat) (a : Addr) (w : Wall), as[i]? = some a → ws[i]? = some w → SqT K H a (wallV w)
theorem YardAt.same {K : PySem.W.Frag} {H H' : Hp} {y : Addr} {many : Int} {ws : List Wall} (e : Same H H') (h : YardAt K H y many ws) : YardAt K H' y many ws := by
  obtain ⟨wa, as, h1, h2, h3, h4⟩ := h
  exact ⟨wa, as, Same.tup e h1, Same.tup e h2, h3, fun i a w ha hw => Same.tup e (h4 i a w ha hw)⟩

/-! ### promises -/
/-- sides_of, _law_sides -/
def spSides (K : PySem.W.Frag) : Sp := fun vs H Q _ => ∃ (a : Addr) (w : Wall), vs = [.ref a] ∧ SqT K H a (wallV w) ∧ 0 ≤ w.sd ∧ w.sd ≤ 2 ∧
  ∀ H' p, Same H H' → SqT K H' p (w.told.map V.int) → Q (.ref p) H'
/-- every -/
def spEvery (K : PySem.W.Frag) : Sp := fun vs H Q _ => ∃ (y : Addr) (many : Int) (ws : List Wall), vs = [.ref y] ∧ YardAt K H y many ws ∧ ws.length ≤ 12 ∧
  ∀ H' p, Same H H' → SqT K H' p (lotV (every ws)) → Q (.ref p) H'
/-- reached, _law_come -/
def spReached (K : PySem.W.Frag) : Sp := fun vs H Q _ => ∃ (y l : Addr) (many : Int) (ws : List Wall) (lot : List Nat), vs = [.ref y, .ref l] ∧ YardAt K H y many ws ∧ YardOk many ws ∧ SqT K H l (lotV lot) ∧ (∀ n ∈ lot, n < ws.length) ∧
  ∀ H' p (rs : List Int), Same H H' → SqL K H' p (rs.map V.int) → (∀ r, r ∈ rs ↔ Reach ws lot r) → Q (.ref p) H'
def spReady (K : PySem.W.Frag) : Sp := fun vs H Q _ => ∃ (y l : Addr) (n : Nat) (many : Int) (ws : List Wall) (lot : List Nat), vs = [.ref y, .ref l, .int (n : Int)] ∧ YardAt K H y many ws ∧ YardOk many ws ∧ SqT K H l (lotV lot) ∧ (∀ n ∈ lot, n < ws.length) ∧ n < ws.length ∧
  ∀ H' b, Same H H' → (b = true ↔ Ready ws lot n) → Q (.bl b) H'
def spGrowth (K : PySem.W.Frag) : Sp := fun vs H Q _ => ∃ (y l : Addr) (many : Int) (ws : List Wall) (lot : List Nat), vs = [.ref y, .ref l] ∧ YardAt K H y many ws ∧ YardOk many ws ∧ SqT K H l (lotV lot) ∧ (∀ n ∈ lot, n < ws.length) ∧ lot.length ≤ 12 ∧
  ∀ H' b, Same H H' → (b = true ↔ Growth ws lot) → Q (.bl b) H'
def spIsInt : Sp := fun vs H Q _ => ∃ i : Int, vs = [.int i] ∧ Q (.bl true) H
def spIsFrom : Sp := fun vs H Q _ => ∃ i a b : Int, vs = [.int i, .int a, .int b] ∧ a ≤ i ∧ i ≤ b ∧ Q (.bl true) H
def spIsWall (K : PySem.W.Frag) : Sp := fun vs H Q _ => ∃ (a : Addr) (w : Wall) (many : Int), vs = [.ref a, .int many] ∧ SqT K H a (wallV w) ∧ WallOk many w ∧ Q (.bl true) H
def spNeedY (K : PySem.W.Frag) : Sp := fun vs H Q _ => ∃ (y : Addr) (many : Int) (ws : List Wall), vs = [.ref y] ∧ YardAt K H y many ws ∧ YardOk many ws ∧ ∀ H', Same H H' → Q .non H'
/-- need_order, of an order of all walls -/
def spNeedO (K : PySem.W.Frag) : Sp := fun vs H Q _ => ∃ (y o : Addr) (many : Int) (ws : List Wall) (t : List Nat), vs = [.ref y, .ref o] ∧ YardAt K H y many ws ∧ YardOk many ws ∧ SqT K H o (lotV t) ∧ t.Perm (every ws) ∧ ∀ H', Same H H' → Q .non H'
/-- last_wrong, of an order that can be walked -/
def spWrong (K : PySem.W.Frag) : Sp := fun vs H Q _ => ∃ (y o : Addr) (many : Int) (ws : List Wall) (t : List Nat), vs = [.ref y, .ref o] ∧ YardAt K H y many ws ∧ YardOk many ws ∧ SqT K H o (lotV t) ∧ Tail ws t ∧ t.length ≤ 12 ∧ ∀ H', Same H H' → Q .non H'
/-- is_order, _law_grows, of an order of all walls that can be walked -/
def spIsOrd (K : PySem.W.Frag) : Sp := fun vs H Q _ => ∃ (y o : Addr) (many : Int) (ws : List Wall) (t : List Nat), vs = [.ref y, .ref o] ∧ YardAt K H y many ws ∧ YardOk many ws ∧ SqT K H o (lotV t) ∧ Tail ws t ∧ t.Perm (every ws) ∧ ∀ H', Same H H' → Q (.bl true) H'
def spHas (K : PySem.W.Frag) : Sp := fun vs H Q _ => ∃ (y : Addr) (many : Int) (ws : List Wall), vs = [.ref y] ∧ YardAt K H y many ws ∧ YardOk many ws ∧
  ∀ H' b, Same H H' → (b = true ↔ Growth ws (every ws)) → Q (.bl b) H'
/-- first_order (R := First), last_order (R := Last) -/
def spOrder (R : List Wall → List Nat → List Nat → Prop) (K : PySem.W.Frag) : Sp := fun vs H Q _ => ∃ (y : Addr) (many : Int) (ws : List Wall), vs = [.ref y] ∧ YardAt K H y many ws ∧ YardOk many ws ∧
  (∀ H', Same H H' → ¬ Growth ws (every ws) → Q .non H') ∧ ∀ H' p f, Same H H' → Growth ws (every ws) → R ws (every ws) f → SqT K H' p (lotV f) → Q (.ref p) H'

def spIs : Sp := fun vs H Q _ => ∃ b : Bool, vs = [.bl b, .bl b] ∧ Q (.bl true) H
/-- the orders at the addresses ps -/
def WordsAt (K : PySem.W.Frag) (H : Hp) (a : Addr) (L : List (Addr × List Nat)) : Prop := SqL K H a (L.map fun q => V.ref q.1) ∧ ∀ q ∈ L, SqT K H q.1 (lotV q.2)
def spWords (K : PySem.W.Frag) : Sp := fun vs H Q _ => ∃ (y : Addr) (many : Int) (ws : List Wall), vs = [.ref y] ∧ YardAt K H y many ws ∧ YardOk many ws ∧ ws.length ≤ 6 ∧
  ∀ H' p (L : List (Addr × List Nat)), Same H H' → WordsAt K H' p L → L.length ≤ 100000 → Words ws (L.map (·.2)) → Q (.ref p) H'
/-- what _law_alike is asked of: None, numbers, tuples and lists of these, of a depth -/
inductive Flat : Nat → PyData → Prop where
  | non {n : Nat} : Flat n .none
  | int {n : Nat} (i : Int) : Flat n (.int i)
  | tup {n : Nat} {ds : List PyData} : ds.length ≤ 100 → (∀ d ∈ ds, Flat n d) → Flat (n + 1) (.tuple ds)
  | lst {n : Nat} {ds : List PyData} : ds.length ≤ 100 → (∀ d ∈ ds, Flat n d) → Flat (n + 1) (.list ds)
def spLaw (K : PySem.W.Frag) : Sp := fun vs H Q _ => ∃ (a : Addr) (ns : List Int), vs = [.ref a] ∧ SqL K H a (ns.map V.int) ∧ ns.length ≤ 63 ∧ ∀ H', Q (.bl true) H'
end K02

/-! K02A -/
/-! The small defs. -/
namespace K02
open PySem PySem.Spec PyProof.Rows L2

/-- the built-in names that no one has covered -/
structure Txt (mg : Str → Option Value) : Prop where
  isi : mg "isinstance" = none
  int : mg "int" = none
  bool : mg "bool" = none
  tuple : mg "tuple" = none
  list : mg "list" = none
  str : mg "str" = none
  len : mg "len" = none
  range : mg "range" = none
  enum : mg "enumerate" = none
  sorted : mg "sorted" = none
  any : mg "any" = none
  all : mg "all" = none
/-- a def of the top, as callers see it -/
structure Df (K : PySem.W.Frag) (mg : Str → Option Value) (x : Str) (st : Stmt) (ps : List Str) (f : Addr) (fd : FuncData) : Prop where
  F : Fun K x x st f fd
  b : Binds K fd ps []
  m : mg x = some (.ref f)

theorem tyx_tup {K : PySem.W.Frag} {H : Hp} {a : Addr} {xs : List V} (h : SqT K H a xs) : TyX K H (.ref a) (.type "tuple") := by
  rcases h with (h | ⟨o, h⟩) | ⟨o, its, n, h, hc, _⟩
  · exact .base (.tup h)
  · exact .fTuple h
  · exact .kTuple h hc
theorem tyx_lst {K : PySem.W.Frag} {H : Hp} {a : Addr} {xs : List V} (h : SqL K H a xs) : TyX K H (.ref a) (.type "list") := by
  rcases h with (h | ⟨o, h⟩) | ⟨o, its, n, h, hc, _⟩
  · exact .base (.lst h)
  · exact .base (.frz h)
  · exact .kList h hc

section
variable {P : Program} {w : World} {K : PySem.W.Frag} {mg : Str → Option Value} {base : Heap}

theorem ok_isInt {f : Addr} {fd : FuncData} (F : Fun K "is_int" "is_int" sIsInt f fd) (T : Txt mg) : FnOk P w K mg base CX0 1 f fd ["value"] spIsInt := by
  refine F.ok scIsInt (fun vs H Q E h => ?_) (fun cdv A outer s H vs Q E hr h => ?_)
  · obtain ⟨i, rfl, _⟩ := h
    rfl
  · obtain ⟨i, rfl, q⟩ := h
    refine ⟨_, pss_one (ps_ret (pe_and (pe_callB call_isi (by rfl) T.isi (by decide +kernel) (pa_cons (pv 0) (pa_cons (pe_bltn (v := .ty "int") (by rfl) T.int (by decide +kernel) rfl) pa_nil)))
      (pe_one (pe_not (pe_callB call_isi (by rfl) T.isi (by decide +kernel) (pa_cons (pv 0) (pa_cons (pe_bltn (v := .ty "bool") (by rfl) T.bool (by decide +kernel) rfl) pa_nil))))))), ?_⟩
    refine ⟨_, rfl, _, _, _, _, true, rfl, .ty "int", .base (.int i), kit_ty (by decide +kernel), true, rfl, iteT ?_⟩
    exact ⟨_, rfl, _, _, _, _, false, rfl, .ty "bool", .base (.int i), kit_ty (by decide +kernel), false, rfl, q⟩

theorem ok_isFrom {f g : Addr} {fd gd : FuncData} (F : Fun K "is_from" "is_from" sIsFrom f fd) (D : Df K mg "is_int" sIsInt ["value"] g gd) (T : Txt mg) : FnOk P w K mg base CX0 2 f fd ["value", "least", "most"] spIsFrom := by
  have G : FnOk P w K mg base CX0 1 g gd ["value"] spIsInt := ok_isInt D.F T
  refine F.ok scIsFrom (fun vs H Q E h => ?_) (fun cdv A outer s H vs Q E hr h => ?_)
  · obtain ⟨i, a, b, rfl, _⟩ := h
    rfl
  · obtain ⟨i, a, b, rfl, h1, h2, q⟩ := h
    refine ⟨_, pss_one (ps_ret (pe_and (pe_call G hr (by rfl) D.m D.F.kp D.b .nil pass0 (pa_cons (pv 0) pa_nil)) (pe_one (pe_chain op_le op_le (pv 1) (pv 0) (pv 2))))), ?_⟩
    refine ⟨_, rfl, i, rfl, true, rfl, iteT ?_⟩
    refine ⟨_, rfl, _, rfl, a, i, rfl, rfl, true, congrArg V.bl (decide_eq_true h1), iteT ⟨_, rfl, i, b, rfl, rfl, ?_⟩⟩
    show Q (V.bl (decide (i ≤ b))) H
    rw [decide_eq_true h2]
    exact q

theorem ok_isWall {f g : Addr} {fd gd : FuncData} (F : Fun K "is_wall" "is_wall" sIsWall f fd) (D : Df K mg "is_from" sIsFrom ["value", "least", "most"] g gd) (G : FnOk P w K mg base CX0 2 g gd ["value", "least", "most"] spIsFrom) (T : Txt mg) :
    FnOk P w K mg base CX0 3 f fd ["value", "many"] (spIsWall K) := by
  refine F.ok scIsWall (fun vs H Q E h => ?_) (fun cdv A outer s H vs Q E hr h => ?_)
  · obtain ⟨a, w, many, rfl, _⟩ := h
    rfl
  · obtain ⟨a, w, many, rfl, hT, hw, q⟩ := h
    refine ⟨_, pss_cons (ps_if (PW.pt (pw_or (pt_not (pt_val (pe_callB call_isi (by rfl) T.isi (by decide +kernel) (pa_cons (pv 0) (pa_cons (pe_bltn (v := .ty "tuple") (by rfl) T.tuple (by decide +kernel) rfl) pa_nil)))))
        (pw_or1 (pt_cmpR op_ne (pe_callB call_len_seq (by rfl) T.len PySem.boot_len (pa_cons (pv 0) pa_nil)) pe_int (nomark _))))) (pss_one (ps_ret pe_bl)) pss_nil)
      (pss_cons (ps_asg (pv 0) (pg_tup rfl (pgs_cons (pg_name (i := 2) scIsWall.nd rfl (.inl rfl)) (pgs_cons (pg_name (i := 3) scIsWall.nd rfl (.inl rfl)) (pgs_cons (pg_name (i := 4) scIsWall.nd rfl (.inl rfl)) pgs_nil)))))
      (pss_one (ps_ret (pe_and (pe_call G hr (by rfl) D.m D.F.kp D.b .nil pass0 (pa_cons (pv 2) (pa_cons pe_int (pa_cons (pe_op op_sub (pv 1) pe_int) pa_nil))))
        (pe_and (pe_call G hr (by rfl) D.m D.F.kp D.b .nil pass0 (pa_cons (pv 3) (pa_cons pe_int (pa_cons (pe_op op_sub (pv 1) pe_int) pa_nil))))
        (pe_and (pe_cmpR op_lt (pv 2) (pv 3) (nomark _))
        (pe_one (pe_call G hr (by rfl) D.m D.F.kp D.b .nil pass0 (pa_cons (pv 4) (pa_cons pe_int (pa_cons pe_int pa_nil))))))))))), ?_⟩
    -- isinstance(value, tuple), len(value)
    refine ⟨_, rfl, _, _, _, _, true, rfl, .ty "tuple", tyx_tup hT, kit_ty (by decide +kernel), true, rfl, iteF ?_⟩
    refine ⟨_, rfl, a, _, rfl, .inr hT, rfl, false, rfl, iteF ?_⟩
    -- low, high, side = value
    refine ⟨_, rfl, a, _, rfl, hT, rfl, _, _, rfl, _, _, rfl, _, _, rfl, rfl, ?_⟩
    refine ⟨_, rfl, _, rfl, _, _, rfl, rfl, w.lo, 0, many - 1, rfl, hw.lo0, by have := hw.lt; have := hw.hiN; omega, true, rfl, iteT ?_⟩
    refine ⟨_, rfl, _, rfl, _, _, rfl, rfl, w.hi, 0, many - 1, rfl, by have := hw.lt; have := hw.lo0; omega, by have := hw.hiN; omega, true, rfl, iteT ?_⟩
    refine ⟨_, rfl, _, rfl, w.lo, w.hi, rfl, rfl, true, congrArg V.bl (decide_eq_true hw.lt), iteT ?_⟩
    exact ⟨_, rfl, w.sd, 0, 2, rfl, hw.s0, hw.s2, q⟩

theorem ok_needY {f g1 g2 : Addr} {fd gd1 gd2 : FuncData} {t9 t12 : Tok} (F : Fun K "need_yard" "need_yard" sNeedY f fd) (D1 : Df K mg "is_from" sIsFrom ["value", "least", "most"] g1 gd1) (G1 : FnOk P w K mg base CX0 2 g1 gd1 ["value", "least", "most"] spIsFrom)
    (D2 : Df K mg "is_wall" sIsWall ["value", "many"] g2 gd2) (G2 : FnOk P w K mg base CX0 3 g2 gd2 ["value", "many"] (spIsWall K)) (m9 : mg "MOST_ROOMS" = some (.int 9 t9)) (m12 : mg "MOST_WALLS" = some (.int 12 t12)) (T : Txt mg) :
    FnOk P w K mg base CX0 4 f fd ["value"] (spNeedY K) := by
  refine F.ok scNeedY (fun vs H Q E h => ?_) (fun cdv A outer s H vs Q E hr h => ?_)
  · obtain ⟨y, many, ws, rfl, _⟩ := h
    rfl
  · obtain ⟨y, many, ws, rfl, ⟨wa, as, hY, hW, hlen, hAt⟩, ok, q⟩ := h
    refine ⟨_, pss_cons (ps_if (PW.pt (pw_or (pt_not (pt_val (pe_callB call_isi (by rfl) T.isi (by decide +kernel) (pa_cons (pv 0) (pa_cons (pe_bltn (v := .ty "tuple") (by rfl) T.tuple (by decide +kernel) rfl) pa_nil)))))
        (pw_or (pt_cmpR op_ne (pe_callB call_len_seq (by rfl) T.len PySem.boot_len (pa_cons (pv 0) pa_nil)) pe_int (nomark _))
        (pw_or1 (pt_not (pt_val (pe_call G1 (hr.mono (by decide)) (by rfl) D1.m D1.F.kp D1.b .nil pass0 (pa_cons (pe_ix ix_tup (pv 0) pe_int (fun _ _ => rfl)) (pa_cons pe_int (pa_cons (pe_glob (v := .int 9) (by rfl) m9 ⟨_, rfl⟩) pa_nil)))))))))) (pss_one ps_never) pss_nil)
      (pss_cons (ps_if (PW.pt (pw_or (pt_not (pt_val (pe_callB call_isi (by rfl) T.isi (by decide +kernel) (pa_cons (pe_ix ix_tup (pv 0) pe_int (fun _ _ => rfl)) (pa_cons (pe_bltn (v := .ty "tuple") (by rfl) T.tuple (by decide +kernel) rfl) pa_nil)))))
        (pw_or1 (pt_cmpR op_gt (pe_callB call_len_seq (by rfl) T.len PySem.boot_len (pa_cons (pe_ix ix_tup (pv 0) pe_int (fun _ _ => rfl)) pa_nil)) (pe_glob (v := .int 12) (by rfl) m12 ⟨_, rfl⟩) (nomark _))))) (pss_one ps_never) pss_nil)
      (pss_one (ps_for PassesOwn.never rfl (pi_enT (by rfl) T.enum (pa_cons (pe_ix ix_tup (pv 0) pe_int (fun _ _ => rfl)) pa_nil)) (pg_tup rfl (pgs_cons (pg_name (i := 1) scNeedY.nd rfl (.inl rfl)) (pgs_cons (pg_name (i := 2) scNeedY.nd rfl (.inl rfl)) pgs_nil)))
        (pss_one (ps_if (pt_not (pt_val (pe_call G2 hr (by rfl) D2.m D2.F.kp D2.b .nil pass0 (pa_cons (pv 2) (pa_cons (pe_ix ix_tup (pv 0) pe_int (fun _ _ => rfl)) pa_nil))))) (pss_one ps_never) pss_nil))))), ?_⟩
    refine ⟨_, rfl, _, _, _, _, true, rfl, .ty "tuple", tyx_tup hY, kit_ty (by decide +kernel), true, rfl, iteF ?_⟩
    refine ⟨_, rfl, y, _, rfl, .inr hY, rfl, false, rfl, iteF ?_⟩
    refine ⟨_, rfl, y, _, 0, _, rfl, rfl, hY, atI_nat (j := 0) rfl, many, 1, 9, rfl, ok.one, ok.nine, true, rfl, iteF ?_⟩
    refine ⟨_, rfl, y, _, 1, _, rfl, rfl, hY, atI_nat (j := 1) rfl, _, _, _, _, true, rfl, .ty "tuple", tyx_tup hW, kit_ty (by decide +kernel), true, rfl, iteF ?_⟩
    refine ⟨_, rfl, y, _, 1, _, rfl, rfl, hY, atI_nat (j := 1) rfl, wa, _, rfl, .inr hW, _, 12, rfl, rfl, false, ?_, iteF ?_⟩
    · rw [List.length_map, hlen]
      have := ok.twelve
      exact congrArg V.bl (decide_eq_false (by omega))
    refine ⟨_, rfl, y, _, 1, _, rfl, rfl, hY, atI_nat (j := 1) rfl, wa, _, rfl, hW, for_enT (K := K) (a := wa) (xs := as.map V.ref) (fun _ σ H' => ∃ v1 v2, σ = [some (.ref y), v1, v2] ∧ Same H H')
      ⟨none, none, rfl, Same.refl H⟩ (fun _ σ H' _ ⟨_, _, _, e⟩ => Same.tup e hW) (fun i x Ta σ H' hx nT hp => ?_) (fun σ H' hp => ?_)⟩
    · obtain ⟨v1, v2, rfl, e⟩ := hp
      have e2 : Same H (upd H' Ta (.tup [.int (i : Nat), x])) := e.trans (same_upd _ nT)
      rw [List.getElem?_map] at hx
      cases ha : as[i]? with
      | none =>
        rw [ha] at hx
        cases hx
      | some a =>
        rw [ha] at hx
        have ex : V.ref a = x := Option.some.inj hx
        subst ex
        have hi : i < ws.length := by
          have := (List.getElem?_eq_some_iff.mp ha).1
          omega
        have hw : ws[i]? = some ws[i] := List.getElem?_eq_getElem hi
        refine ⟨Ta, _, rfl, .inl (.inl upd_same), rfl, _, _, rfl, _, _, rfl, rfl, ?_⟩
        refine ⟨_, rfl, _, rfl, y, _, 0, _, rfl, rfl, Same.tup e2 hY, atI_nat (j := 0) rfl, a, ws[i], many, rfl, Same.tup e2 (hAt i a _ ha hw), ok.walls _ (List.getElem_mem hi), true, rfl, iteF ?_⟩
        exact ⟨_, _, rfl, e2⟩
    · obtain ⟨v1, v2, rfl, e⟩ := hp
      exact q H' e

theorem told_at {w : Wall} (h0 : 0 ≤ w.sd) (h2 : w.sd ≤ 2) : w.told = [w.lo] ∧ w.sd = 0 ∨ w.told = [w.hi] ∧ w.sd = 1 ∨ w.told = [w.lo, w.hi] ∧ w.sd = 2 := by
  unfold Wall.told
  by_cases e0 : w.sd = 0
  · exact .inl ⟨if_pos e0, e0⟩
  · by_cases e1 : w.sd = 1
    · exact .inr (.inl ⟨by rw [if_neg e0, if_pos e1], e1⟩)
    · exact .inr (.inr ⟨by rw [if_neg e0, if_neg e1], by omega⟩)
theorem line1 : 1 ≤ sizeLine := by decide
theorem line2 : 2 ≤ sizeLine := by decide
theorem line3 : 3 ≤ sizeLine := by decide
/-- three new tuples and a list of them, one picked: what both defs of sides come to -/
theorem pick3 {K : PySem.W.Frag} {H : Hp} {w : Wall} {Q : VK} (h0 : 0 ≤ w.sd) (h2 : w.sd ≤ 2) {p1 p2 p3 l : Addr} (n1 : H p1 = none) (n2 : upd H p1 (.tup [.int w.lo]) p2 = none) (n3 : upd (upd H p1 (.tup [.int w.lo])) p2 (.tup [.int w.hi]) p3 = none)
    (nl : upd (upd (upd H p1 (.tup [.int w.lo])) p2 (.tup [.int w.hi])) p3 (.tup [.int w.lo, .int w.hi]) l = none)
    (q : ∀ H' p, Same H H' → SqT K H' p (w.told.map V.int) → Q (.ref p) H') :
    ∃ v, atI ([.ref p1, .ref p2, .ref p3] : List V) w.sd = some v ∧ Q v (upd (upd (upd (upd H p1 (.tup [.int w.lo])) p2 (.tup [.int w.hi])) p3 (.tup [.int w.lo, .int w.hi])) l (.lst [.ref p1, .ref p2, .ref p3])) := by
  have s1 := same_upd (.tup [.int w.lo]) n1
  have s2 := same_upd (.tup [.int w.hi]) n2
  have s3 := same_upd (.tup [.int w.lo, .int w.hi]) n3
  have s4 := same_upd (.lst [.ref p1, .ref p2, .ref p3]) nl
  have all := s1.trans (s2.trans (s3.trans s4))
  rcases told_at h0 h2 with ⟨e, z⟩ | ⟨e, z⟩ | ⟨e, z⟩
  · rw [z]
    refine ⟨_, atI_nat (j := 0) rfl, q _ p1 all ?_⟩
    rw [e]
    exact Same.tup (s2.trans (s3.trans s4)) (.inl (.inl upd_same))
  · rw [z]
    refine ⟨_, atI_nat (j := 1) rfl, q _ p2 all ?_⟩
    rw [e]
    exact Same.tup (s3.trans s4) (.inl (.inl upd_same))
  · rw [z]
    refine ⟨_, atI_nat (j := 2) rfl, q _ p3 all ?_⟩
    rw [e]
    exact Same.tup s4 (.inl (.inl upd_same))

theorem ok_sides {f : Addr} {fd : FuncData} (F : Fun K "sides_of" "sides_of" sSides f fd) : FnOk P w K mg base CX0 1 f fd ["wall"] (spSides K) := by
  refine F.ok scSides (fun vs H Q E h => ?_) (fun cdv A outer s H vs Q E hr h => ?_)
  · obtain ⟨a, w, rfl, _⟩ := h
    rfl
  · obtain ⟨a, w, rfl, hT, h0, h2, q⟩ := h
    refine ⟨_, pss_cons (ps_asg (pv 0) (pg_tup rfl (pgs_cons (pg_name (i := 1) scSides.nd rfl (.inl rfl)) (pgs_cons (pg_name (i := 2) scSides.nd rfl (.inl rfl)) (pgs_cons (pg_name (i := 3) scSides.nd rfl (.inl rfl)) pgs_nil)))))
      (pss_one (ps_ret (pe_ix ix_list (pe_lst (pa_cons (pe_tup (pa_cons (pv 1) pa_nil)) (pa_cons (pe_tup (pa_cons (pv 2) pa_nil)) (pa_cons (pe_tup (pa_cons (pv 1) (pa_cons (pv 2) pa_nil))) pa_nil)))) (pv 3) (fun _ _ => rfl)))), ?_⟩
    refine ⟨_, rfl, a, _, rfl, hT, rfl, _, _, rfl, _, _, rfl, _, _, rfl, rfl, ?_⟩
    refine ⟨_, rfl, line1, fun p1 n1 => ⟨_, rfl, line1, fun p2 n2 => ⟨_, rfl, _, rfl, line2, fun p3 n3 => ⟨line3, fun l nl => ?_⟩⟩⟩⟩
    obtain ⟨v, hv, hq⟩ := pick3 (K := K) (Q := Q) h0 h2 n1 n2 n3 nl q
    exact ⟨_, rfl, l, _, w.sd, v, rfl, rfl, SqL.of upd_same, hv, hq⟩

theorem ok_lsides {f : Addr} {fd : FuncData} (F : Fun K "_law_sides" "_law_sides" sLSides f fd) : FnOk P w K mg base CX0 1 f fd ["_law_shut"] (spSides K) := by
  refine F.ok scLSides (fun vs H Q E h => ?_) (fun cdv A outer s H vs Q E hr h => ?_)
  · obtain ⟨a, w, rfl, _⟩ := h
    rfl
  · obtain ⟨a, w, rfl, hT, h0, h2, q⟩ := h
    refine ⟨_, pss_one (ps_ret (pe_ix ix_list (pe_lst (pa_cons (pe_slice sl_tup (pv 0) po_none (po_some pe_int)) (pa_cons (pe_slice sl_tup (pv 0) (po_some pe_int) (po_some pe_int)) (pa_cons (pe_slice sl_tup (pv 0) po_none (po_some pe_int)) pa_nil))))
      (pe_ix ix_tup (pv 0) pe_int (fun _ _ => rfl)) (fun _ _ => rfl))), ?_⟩
    refine ⟨_, rfl, 1, rfl, a, _, rfl, hT, (by show ¬ (HT.sIx 3 0 none = 0 ∧ HT.sIx 3 3 (some 1) = 3); decide), fun p1 n1 => ?_⟩
    have s1 := same_upd (.tup [.int w.lo]) n1
    refine ⟨_, rfl, 1, rfl, 2, rfl, a, _, rfl, Same.tup s1 hT, (by show ¬ (HT.sIx 3 0 (some 1) = 0 ∧ HT.sIx 3 3 (some 2) = 3); decide), fun p2 n2 => ?_⟩
    have s2 := same_upd (.tup [.int w.hi]) n2
    refine ⟨_, rfl, 2, rfl, a, _, rfl, Same.tup s2 (Same.tup s1 hT), (by show ¬ (HT.sIx 3 0 none = 0 ∧ HT.sIx 3 3 (some 2) = 3); decide), fun p3 n3 => ?_⟩
    have s3 := same_upd (.tup [.int w.lo, .int w.hi]) n3
    refine ⟨line3, fun l nl => ?_⟩
    have s4 := same_upd (.lst [.ref p1, .ref p2, .ref p3]) nl
    obtain ⟨v, hv, hq⟩ := pick3 (K := K) (Q := Q) h0 h2 n1 n2 n3 nl q
    exact ⟨_, rfl, a, _, 2, _, rfl, rfl, Same.tup s4 (Same.tup s3 (Same.tup s2 (Same.tup s1 hT))), atI_nat (j := 2) rfl, l, _, w.sd, v, rfl, rfl, SqL.of upd_same, hv, hq⟩

theorem rgV_lot (n : Nat) : rgV 0 (n : Int) = lotV (List.range n) := by
  unfold rgV lotV
  rw [show ((n : Int) - 0).toNat = n by omega]
  refine List.map_congr_left fun i _ => ?_
  rw [show (0 : Int) + (i : Nat) = (i : Int) by omega]

theorem ok_every {f : Addr} {fd : FuncData} (F : Fun K "every" "every" sEvery f fd) (T : Txt mg) : FnOk P w K mg base CX0 1 f fd ["yard"] (spEvery K) := by
  refine F.ok scEvery (fun vs H Q E h => ?_) (fun cdv A outer s H vs Q E hr h => ?_)
  · obtain ⟨y, many, ws, rfl, _⟩ := h
    rfl
  · obtain ⟨y, many, ws, rfl, ⟨wa, as, hY, hW, hlen, hAt⟩, h12, q⟩ := h
    refine ⟨_, pss_one (ps_ret (pe_tupRg rfl (by rfl) T.tuple (prg_1 (by rfl) T.range (pe_callB call_len_seq (by rfl) T.len PySem.boot_len (pa_cons (pe_ix ix_tup (pv 0) pe_int (fun _ _ => rfl)) pa_nil))))), ?_⟩
    refine ⟨_, rfl, y, _, 1, _, rfl, rfl, hY, atI_nat (j := 1) rfl, wa, _, rfl, .inr hW, _, rfl, ?_, fun p np => ?_⟩
    · rw [List.length_map, hlen]
      exact RgOk.of_le (by omega) (by omega) (by omega) (by omega)
    · rw [List.length_map, hlen, rgV_lot] at *
      exact q _ p (same_upd _ np) (.inl (.inl upd_same))

theorem ok_is {f : Addr} {fd : FuncData} (F : Fun K "_law_is" "_law_is" sIs f fd) (T : Txt mg) : FnOk P w K mg base CX0 1 f fd ["_law_found", "_law_due"] spIs := by
  refine F.ok scIs (fun vs H Q E h => ?_) (fun cdv A outer s H vs Q E hr h => ?_)
  · obtain ⟨b, rfl, _⟩ := h
    rfl
  · obtain ⟨b, rfl, q⟩ := h
    refine ⟨_, pss_one (ps_ret (pe_and (pe_callB call_isi (by rfl) T.isi (by decide +kernel) (pa_cons (pv 0) (pa_cons (pe_bltn (v := .ty "bool") (by rfl) T.bool (by decide +kernel) rfl) pa_nil)))
      (pe_one (pe_cmpR op_eq (pv 0) (pv 1) (nomark _))))), ?_⟩
    refine ⟨_, rfl, _, _, _, _, true, rfl, .ty "bool", .base (.bl b), kit_ty (by decide +kernel), true, rfl, iteT ?_⟩
    refine ⟨_, rfl, _, rfl, rfl, ?_⟩
    show Q (.bl (decide (V.bl b = V.bl b))) H
    rw [decide_eq_true rfl]
    exact q
end
end K02

/-! K02B -/
/-! reached and _law_come. -/
namespace K02
open PySem PySem.Spec PyProof.Rows L2

theorem flat_ints (l : List Int) : (l.map V.int).all flatV = true := by
  rw [List.all_map]
  exact List.all_eq_true.mpr fun _ _ => rfl
theorem inV_ints (a : Int) (l : List Int) : inV (.int a) (l.map V.int) = decide (a ∈ l) := by
  unfold inV
  rw [List.any_map, Bool.eq_iff_iff, List.any_eq_true, decide_eq_true_eq]
  constructor
  · rintro ⟨x, hx, e⟩
    have e' : x = a := by
      have z : (x == a) = true := e
      exact eq_of_beq z
    rw [← e']
    exact hx
  · intro h
    exact ⟨a, h, (beq_self_eq_true a : (a == a) = true)⟩
theorem flat_lot (l : List Nat) : (lotV l).all flatV = true := by
  unfold lotV
  rw [List.all_map]
  exact List.all_eq_true.mpr fun _ _ => rfl
theorem inV_lot (a : Nat) (l : List Nat) : inV (.int (a : Int)) (lotV l) = decide (a ∈ l) := by
  unfold inV lotV
  rw [List.any_map, Bool.eq_iff_iff, List.any_eq_true, decide_eq_true_eq]
  constructor
  · rintro ⟨x, hx, e⟩
    have z : ((x : Int) == (a : Int)) = true := e
    have e' : x = a := by
      have := eq_of_beq z
      omega
    rw [← e']
    exact hx
  · intro h
    exact ⟨a, h, (beq_self_eq_true (a : Int) : ((a : Int) == (a : Int)) = true)⟩

theorem But.tup {K : PySem.W.Frag} {H H' : Hp} {o p : Addr} {xs l : List V} (e : But o H H') (ho : H o = some (.lst l)) (h : SqT K H p xs) : SqT K H' p xs := by
  rcases h with (h | ⟨ob, h⟩) | h
  · exact .inl (.inl (e _ _ (ne_of h ho (fun z => nomatch z)) h))
  · exact .inl (.inr ⟨ob, e _ _ (ne_of h ho (fun z => nomatch z)) h⟩)
  · exact .inr h
/-- the list of the rooms found so far, at o -/
structure Fnd (H0 H : Hp) (o : Addr) (many : Int) (ws : List Wall) (lot : List Nat) (fd : List Int) : Prop where
  same : Same H0 H
  new : H0 o = none
  at_ : H o = some (.lst (fd.map V.int))
  zero : (0 : Int) ∈ fd
  nd : fd.Nodup
  reach : ∀ r ∈ fd, Reach ws lot r
  lim : ∀ r ∈ fd, 0 ≤ r ∧ r < many
section
variable {H0 H H' : Hp} {o : Addr} {many : Int} {ws : List Wall} {lot : List Nat} {fd : List Int}
theorem Fnd.step (f : Fnd H0 H o many ws lot fd) (e : Same H H') : Fnd H0 H' o many ws lot fd := ⟨f.same.trans e, f.new, e _ _ f.at_, f.zero, f.nd, f.reach, f.lim⟩
theorem Fnd.len (f : Fnd H0 H o many ws lot fd) : fd.length ≤ many.toNat := few_rooms many.toNat fd f.nd fun x hx => by
  have := f.lim x hx
  omega
theorem map_add (fd : List Int) (x : Int) : fd.map V.int ++ [V.int x] = (fd ++ [x]).map V.int := by
  rw [List.map_append]
  rfl
theorem Fnd.add {x : Int} (f : Fnd H0 H o many ws lot fd) (hx : x ∉ fd) (hr : Reach ws lot x) (hl : 0 ≤ x ∧ x < many) : Fnd H0 (upd H o (.lst (fd.map V.int ++ [.int x]))) o many ws lot (fd ++ [x]) := by
  refine ⟨Same.but_new f.same f.new (but_upd _), f.new, ?_, List.mem_append_left _ f.zero, ?_, fun r h => ?_, fun r h => ?_⟩
  · rw [upd_same, map_add]
  · rw [List.nodup_append]
    refine ⟨f.nd, by simp, fun a ha b hb e => ?_⟩
    rw [List.mem_singleton] at hb
    rw [e, hb] at ha
    exact hx ha
  · rcases List.mem_append.mp h with h | h
    · exact f.reach r h
    · rw [List.mem_singleton.mp h]
      exact hr
  · rcases List.mem_append.mp h with h | h
    · exact f.lim r h
    · rw [List.mem_singleton.mp h]
      exact hl
theorem Fnd.start (h1 : 1 ≤ many) (no : H o = none) : Fnd H (upd H o (.lst [.int 0])) o many ws lot [0] := by
  refine ⟨same_upd _ no, no, upd_same, List.mem_singleton.mpr rfl, by simp, fun r h => ?_, fun r h => ?_⟩
  · rw [List.mem_singleton.mp h]
    exact .out
  · rw [List.mem_singleton.mp h]
    omega
end

section
variable {P : Program} {w : World} {K : PySem.W.Frag} {mg : Str → Option Value} {base : Heap}
theorem take_one {l : List Nat} {i n : Nat} (h : l[i]? = some n) : l.take (i + 1) = l.take i ++ [n] := by
  rw [List.take_add_one, h]
  rfl

theorem ok_reached {f g : Addr} {fd gd : FuncData} (F : Fun K "reached" "reached" sReached f fd) (D : Df K mg "sides_of" sSides ["wall"] g gd) (T : Txt mg) : FnOk P w K mg base CX0 2 f fd ["yard", "lot"] (spReached K) := by
  have G : FnOk P w K mg base CX0 1 g gd ["wall"] (spSides K) := ok_sides D.F
  refine F.ok scReached (fun vs H Q E h => ?_) (fun cdv A outer s H vs Q E hr h => ?_)
  · obtain ⟨y, l, many, ws, lot, rfl, _⟩ := h
    rfl
  · obtain ⟨y, l, many, ws, lot, rfl, hYard, ok, hL, hlt, q⟩ := h
    obtain ⟨wa, as, hY, hW, hlen, hAt⟩ := id hYard
    refine ⟨_, pss_cons (ps_par (i := 2) (j := 3) rfl scReached.nd rfl rfl (by decide) rfl rfl (pa_cons (pe_lst (pa_cons pe_int pa_nil)) (pa_cons pe_bl pa_nil)) (by rfl))
      (pss_cons (ps_while PassesOwn.never (pt_val (pv 3))
        (pss_cons (ps_set (i := 3) scReached.nd rfl (.inl rfl) pe_bl)
        (pss_one (ps_for PassesOwn.never rfl (pi_tup (pv 1)) (pg_name (i := 4) scReached.nd rfl (.inl rfl))
          (pss_cons (ps_asg (pe_ix ix_tup (pe_ix ix_tup (pv 0) pe_int (fun _ _ => rfl)) (pv 4) (fun _ _ => rfl)) (pg_tup rfl (pgs_cons (pg_name (i := 5) scReached.nd rfl (.inl rfl)) (pgs_cons (pg_name (i := 6) scReached.nd rfl (.inl rfl)) (pgs_cons (pg_name (i := 7) scReached.nd rfl (.inl rfl)) pgs_nil)))))
          (pss_one (ps_for PassesOwn.never rfl (pi_tup (pe_tup (pa_cons (pe_tup (pa_cons (pv 5) (pa_cons (pv 6) pa_nil))) (pa_cons (pe_tup (pa_cons (pv 6) (pa_cons (pv 5) pa_nil))) pa_nil)))) (pg_tup rfl (pgs_cons (pg_name (i := 8) scReached.nd rfl (.inl rfl)) (pgs_cons (pg_name (i := 9) scReached.nd rfl (.inl rfl)) pgs_nil)))
            (pss_one (ps_if (PW.pt (pw_and (pt_cmpR op_in_seq (pv 8) (pv 2) (by rfl)) (pw_and (pt_cmpR op_notIn_seq (pv 9) (pv 2) (by rfl)) (pw_and1 (pt_cmpR op_in_seq (pv 8)
                (pe_call G hr (by rfl) D.m D.F.kp D.b .nil pass0 (pa_cons (pe_ix ix_tup (pe_ix ix_tup (pv 0) pe_int (fun _ _ => rfl)) (pv 4) (fun _ _ => rfl)) pa_nil)) (by rfl))))))
              (pss_cons (ps_expr (pe_bm PySem.F.plainAttrs_list PySem.F.slot_list_append PySem.F.type_list_append mt_append (pv 2) (pa_cons (pv 9) pa_nil))) (pss_one (ps_set (i := 3) scReached.nd rfl (.inl rfl) pe_bl))) pss_nil)))))))))
      (pss_one (ps_ret (pe_callB cr_sorted (by rfl) T.sorted (by decide +kernel) (pa_cons (pv 2) pa_nil))))), ?_⟩
    -- found, rising = [0], True
    refine ⟨line1, fun o no => ⟨_, _, rfl, ?_⟩⟩
    have f0 : Fnd H (upd H o (.lst [.int 0])) o many ws lot [0] := Fnd.start ok.one no
    -- while rising
    refine ⟨fun m σ H' => ∃ (fl : List Int) (b : Bool) (v4 v5 v6 v7 v8 v9 : Option V), σ = [some (.ref y), some (.ref l), some (.ref o), some (.bl b), v4, v5, v6, v7, v8, v9] ∧ Fnd H H' o many ws lot fl ∧
      m = 2 * (many.toNat - fl.length) + (if b = true then 1 else 0) ∧ (b = false → ∀ n ∈ lot, Shut ws fl n), ⟨_, [0], true, none, none, none, none, none, none, rfl, f0, rfl, fun z => nomatch z⟩, fun m σ H1 hW1 => ?_⟩
    obtain ⟨fl, b, v4, v5, v6, v7, v8, v9, rfl, f1, em, hshut⟩ := hW1
    refine ⟨_, rfl, b, rfl, ?_⟩
    cases b with
    | false =>
      -- return sorted(found)
      refine iteF ?_
      refine ⟨_, rfl, o, fl, rfl, SqL.of f1.at_, ?_, fun ns' p hp _ np => ?_⟩
      · have h1 := f1.len
        have h2 := ok.nine
        omega
      · refine q _ p ns' (f1.same.trans (same_upd _ np)) (SqL.of upd_same) fun r => ?_
        rw [hp.mem_iff]
        exact ⟨f1.reach r, reach_in f1.zero (hshut rfl)⟩
    | true =>
      refine iteT ⟨fun σ' H' => ∃ m', m' < m ∧ ∃ (fl : List Int) (b : Bool) (v4 v5 v6 v7 v8 v9 : Option V), σ' = [some (.ref y), some (.ref l), some (.ref o), some (.bl b), v4, v5, v6, v7, v8, v9] ∧ Fnd H H' o many ws lot fl ∧
        m' = 2 * (many.toNat - fl.length) + (if b = true then 1 else 0) ∧ (b = false → ∀ n ∈ lot, Shut ws fl n), fun σ' H' h => h, ?_⟩
      -- rising = False; for number in lot
      refine ⟨_, rfl, l, rfl, ⟨_, Same.tup f1.same hL⟩, for_tup (K := K) (a := l) (xs := lotV lot) (fun i σ H' => ∃ (fl' : List Int) (b : Bool) (v4 v5 v6 v7 v8 v9 : Option V), σ = [some (.ref y), some (.ref l), some (.ref o), some (.bl b), v4, v5, v6, v7, v8, v9] ∧ Fnd H H' o many ws lot fl' ∧
        (b = true → fl.length < fl'.length) ∧ (b = false → fl' = fl ∧ ∀ n ∈ lot.take i, Shut ws fl n))
        ⟨fl, false, _, _, _, _, _, _, rfl, f1, (fun z => nomatch z), fun _ => ⟨rfl, fun n hn => by simp at hn⟩⟩
        (fun i σ H' _ hp => by
          obtain ⟨_, _, _, _, _, _, _, _, _, ff, _⟩ := hp
          exact Same.tup ff.same hL) (fun i x σ H2 hx hp => ?_) (fun σ H2 hp => ?_)⟩
      · obtain ⟨fl', b, v4, v5, v6, v7, v8, v9, rfl, f2, hgt, hsame⟩ := hp
        obtain ⟨n, hn, rfl⟩ := lotV_inv hx
        have hnm : n ∈ lot := List.mem_of_getElem? hn
        have hnw : n < ws.length := hlt n hnm
        have hw : ws[n]? = some ws[n] := List.getElem?_eq_getElem hnw
        have wok := ok.walls _ (List.getElem_mem hnw)
        generalize ws[n] = ww at hw wok
        have hna : n < as.length := by omega
        have ha : as[n]? = some as[n] := List.getElem?_eq_getElem hna
        generalize as[n] = aw at ha
        have hav : (as.map V.ref)[n]? = some (.ref aw) := by
          rw [List.getElem?_map, ha]
          rfl
        have hA2 : ∀ {H' : Hp}, Same H H' → SqT K H' aw (wallV ww) := fun e => Same.tup e (hAt n aw ww ha hw)
        -- low, high, side = yard[1][number]
        refine ⟨_, rfl, y, _, 1, _, rfl, rfl, Same.tup f2.same hY, atI_nat (j := 1) rfl, _, rfl, wa, _, (n : Int), _, rfl, rfl, Same.tup f2.same hW, atI_nat hav, aw, _, rfl, hA2 f2.same, rfl, _, _, rfl, _, _, rfl, _, _, rfl, rfl, ?_⟩
        -- ((low, high), (high, low))
        refine ⟨_, rfl, _, rfl, line2, fun p1 n1 => ⟨_, rfl, _, rfl, line2, fun p2 n2 => ⟨line2, fun p3 n3 => ?_⟩⟩⟩
        have s1 := same_upd (.tup [.int ww.lo, .int ww.hi]) n1
        have s2 := same_upd (.tup [.int ww.hi, .int ww.lo]) n2
        have s3 := same_upd (.tup [.ref p1, .ref p2]) n3
        generalize hH3 : upd (upd (upd H2 p1 (.tup [.int ww.lo, .int ww.hi])) p2 (.tup [.int ww.hi, .int ww.lo])) p3 (.tup [.ref p1, .ref p2]) = H3 at s3
        have e1 : SqT K H3 p1 [.int ww.lo, .int ww.hi] := Same.tup (s2.trans s3) (.inl (.inl upd_same))
        have e2 : SqT K H3 p2 [.int ww.hi, .int ww.lo] := Same.tup s3 (.inl (.inl upd_same))
        have e3 : SqT K H3 p3 [.ref p1, .ref p2] := by
          rw [← hH3]
          exact .inl (.inl upd_same)
        have f3 : Fnd H H3 o many ws lot fl' := f2.step (s1.trans (s2.trans s3))
        have m0 : H2 p1 = none := n1
        clear hH3
        refine ⟨p3, rfl, ⟨_, e3⟩, for_tup (K := K) (a := p3) (xs := [.ref p1, .ref p2]) (fun j σ H' => ∃ (fl'' : List Int) (b : Bool) (v8 v9 : Option V), σ = [some (.ref y), some (.ref l), some (.ref o), some (.bl b), some (.int (n : Int)), some (.int ww.lo), some (.int ww.hi), some (.int ww.sd), v8, v9] ∧
          Fnd H H' o many ws lot fl'' ∧ But o H3 H' ∧ (b = true → fl.length < fl''.length) ∧ (b = false → fl'' = fl ∧ (∀ n ∈ lot.take i, Shut ws fl n) ∧ (1 ≤ j → ww.lo ∈ ww.told → ww.lo ∈ fl → ww.hi ∈ fl) ∧ (2 ≤ j → ww.hi ∈ ww.told → ww.hi ∈ fl → ww.lo ∈ fl)))
          ⟨fl', b, v8, v9, rfl, f3, But.refl o H3, hgt, fun z => ⟨(hsame z).1, (hsame z).2, fun z => absurd z (by decide), fun z => absurd z (by decide)⟩⟩
          (fun j σ H' _ hp => ?_) (fun j x σ H4 hx hp => ?_) (fun σ H4 hp => ?_)⟩
        · obtain ⟨_, _, _, _, _, ff, kk, _⟩ := hp
          exact But.tup kk f3.at_ e3
        · obtain ⟨fl'', b, v8, v9, rfl, f4, kk, hgt4, hsame4⟩ := hp
          obtain ⟨one, other, p, rfl, hpair, hcase⟩ : ∃ (one other : Int) (p : Addr), x = .ref p ∧ SqT K H3 p [.int one, .int other] ∧ (j = 0 ∧ one = ww.lo ∧ other = ww.hi ∨ j = 1 ∧ one = ww.hi ∧ other = ww.lo) := by
            match j, hx with
            | 0, hx => exact ⟨_, _, p1, (Option.some.inj hx).symm, e1, .inl ⟨rfl, rfl, rfl⟩⟩
            | 1, hx => exact ⟨_, _, p2, (Option.some.inj hx).symm, e2, .inr ⟨rfl, rfl, rfl⟩⟩
            | j + 2, hx => simp at hx
          have leF : fl.length ≤ fl''.length := by
            cases b with
            | true => exact Nat.le_of_lt (hgt4 rfl)
            | false => rw [(hsame4 rfl).1]; exact Nat.le_refl _
          -- what a turn that finds nothing new leaves
          have quiet : (one ∈ ww.told → one ∈ fl'' → other ∈ fl'') → (b = false → fl'' = fl ∧ (∀ n ∈ lot.take i, Shut ws fl n) ∧ (1 ≤ j + 1 → ww.lo ∈ ww.told → ww.lo ∈ fl → ww.hi ∈ fl) ∧ (2 ≤ j + 1 → ww.hi ∈ ww.told → ww.hi ∈ fl → ww.lo ∈ fl)) := fun hno z => by
            obtain ⟨a1, a2, a3, a4⟩ := hsame4 z
            rw [a1] at hno
            rcases hcase with ⟨ej, eo, et⟩ | ⟨ej, eo, et⟩
            · rw [eo, et] at hno
              exact ⟨a1, a2, fun _ => hno, fun z => absurd z (by omega)⟩
            · rw [eo, et] at hno
              exact ⟨a1, a2, fun _ => a3 (by omega), fun _ => hno⟩
          refine ⟨p, _, rfl, But.tup kk f3.at_ hpair, rfl, _, _, rfl, _, _, rfl, rfl, ?_⟩
          -- one in found
          refine ⟨_, rfl, _, rfl, o, _, rfl, .inl (SqL.of f4.at_), rfl, flat_ints _, _, rfl, ?_⟩
          refine ite2 (fun c => ?_) (fun c => ?_)
          · have c1 : one ∈ fl'' := of_decide_eq_true ((inV_ints one fl'').symm.trans c)
            -- other not in found
            refine ⟨_, rfl, _, rfl, o, _, rfl, .inl (SqL.of f4.at_), rfl, flat_ints _, _, rfl, ?_⟩
            refine ite2 (fun c => ?_) (fun c => ?_)
            · have c2 : other ∉ fl'' := by
                have z : (!inV (.int other) (fl''.map V.int)) = true := c
                rw [inV_ints] at z
                simpa using z
              -- one in sides_of(yard[1][number])
              refine ⟨_, rfl, _, rfl, y, _, 1, _, rfl, rfl, Same.tup f4.same hY, atI_nat (j := 1) rfl, _, rfl, wa, _, (n : Int), _, rfl, rfl, Same.tup f4.same hW, atI_nat hav, aw, ww, rfl, hA2 f4.same, wok.s0, wok.s2, fun H5 p5 e5 h5 => ?_⟩
              refine ⟨p5, _, rfl, .inr h5, rfl, flat_ints _, _, rfl, ?_⟩
              have f5 := f4.step e5
              have k5 : But o H3 H5 := kk.trans (Same.but e5)
              refine ite2 (fun c => ?_) (fun c => ?_)
              · have c3 : one ∈ ww.told := of_decide_eq_true ((inV_ints one ww.told).symm.trans c)
                have hr2 : Reach ws lot other ∧ 0 ≤ other ∧ other < many := by
                  have hone := f4.reach one c1
                  have b1 := wok.lo0
                  have b2 := wok.lt
                  have b3 := wok.hiN
                  rcases hcase with ⟨_, eo, et⟩ | ⟨_, eo, et⟩
                  · rw [eo] at c3 hone
                    rw [et]
                    exact ⟨.up hnm hw c3 hone, by omega, by omega⟩
                  · rw [eo] at c3 hone
                    rw [et]
                    exact ⟨.down hnm hw c3 hone, by omega, by omega⟩
                -- found.append(other); rising = True
                refine ⟨_, rfl, .inl ⟨rfl, _, SqL.of f5.at_⟩, _, rfl, o, _, _, rfl, rfl, f5.at_, ?_, ?_⟩
                · rw [List.length_map]
                  have h1 := f5.len
                  have h2 := ok.nine
                  exact small1000 (by omega)
                · refine ⟨_, true, _, _, rfl, f5.add c2 hr2.1 hr2.2, k5.trans (but_upd _), fun _ => ?_, fun z => nomatch z⟩
                  rw [List.length_append]
                  simp
                  omega
              · have c3 : one ∉ ww.told := fun z => c ((inV_ints one ww.told).trans (decide_eq_true z))
                exact ⟨_, b, _, _, rfl, f5, k5, hgt4, quiet fun z => absurd z c3⟩
            · have c2 : other ∈ fl'' := by
                by_cases z : other ∈ fl''
                · exact z
                · refine absurd ?_ c
                  show (!inV (.int other) (fl''.map V.int)) = true
                  rw [inV_ints, decide_eq_false z]
                  rfl
              exact ⟨_, b, _, _, rfl, f4, kk, hgt4, quiet fun _ _ => c2⟩
          · have c1 : one ∉ fl'' := fun z => c ((inV_ints one fl'').trans (decide_eq_true z))
            exact ⟨_, b, _, _, rfl, f4, kk, hgt4, quiet fun _ z => absurd z c1⟩
        · obtain ⟨fl'', b, v8, v9, rfl, f4, kk, hgt4, hsame4⟩ := hp
          refine ⟨fl'', b, _, _, _, _, _, _, rfl, f4, hgt4, fun z => ?_⟩
          obtain ⟨a1, a2, a3, a4⟩ := hsame4 z
          refine ⟨a1, fun k hk => ?_⟩
          rw [take_one hn] at hk
          rcases List.mem_append.mp hk with hk | hk
          · exact a2 k hk
          · rw [List.mem_singleton.mp hk]
            intro w' hw'
            rw [hw] at hw'
            cases hw'
            exact ⟨a3 (show 1 ≤ 2 by decide), a4 (show 2 ≤ 2 by decide)⟩
      · obtain ⟨fl', b, v4, v5, v6, v7, v8, v9, rfl, f2, hgt, hsame⟩ := hp
        refine ⟨2 * (many.toNat - fl'.length) + (if b = true then 1 else 0), ?_, fl', b, _, _, _, _, _, _, rfl, f2, rfl, fun z n hn => ?_⟩
        · rw [em]
          have l1 := f2.len
          have l2 := f1.len
          cases b with
          | true =>
            have := hgt rfl
            simp
            omega
          | false =>
            rw [(hsame rfl).1]
            simp
        · obtain ⟨a1, a2⟩ := hsame z
          rw [a1]
          refine a2 n ?_
          rw [lotV_len, List.take_length]
          exact hn

theorem map_int_at {l : List Int} {j : Nat} {x : V} (h : (l.map V.int)[j]? = some x) : ∃ a, l[j]? = some a ∧ x = .int a := by
  rw [List.getElem?_map] at h
  cases e : l[j]? with
  | none =>
    rw [e] at h
    cases h
  | some a =>
    rw [e] at h
    exact ⟨a, rfl, (Option.some.inj h).symm⟩
theorem take_oneI {l : List Int} {i : Nat} {n : Int} (h : l[i]? = some n) : l.take (i + 1) = l.take i ++ [n] := by
  rw [List.take_add_one, h]
  rfl

theorem ok_come {f g : Addr} {fd gd : FuncData} (F : Fun K "_law_come" "_law_come" sCome f fd) (D : Df K mg "_law_sides" sLSides ["_law_shut"] g gd) (T : Txt mg) : FnOk P w K mg base CX0 2 f fd ["_law_yard_here", "_law_lot"] (spReached K) := by
  have G : FnOk P w K mg base CX0 1 g gd ["_law_shut"] (spSides K) := ok_lsides D.F
  refine F.ok scCome (fun vs H Q E h => ?_) (fun cdv A outer s H vs Q E hr h => ?_)
  · obtain ⟨y, l, many, ws, lot, rfl, _⟩ := h
    rfl
  · obtain ⟨y, l, many, ws, lot, rfl, hYard, ok, hL, hlt, q⟩ := h
    obtain ⟨wa, as, hY, hW, hlen, hAt⟩ := id hYard
    refine ⟨_, pss_cons (ps_set (i := 2) scCome.nd rfl (.inl rfl) (pe_lst (pa_cons pe_int pa_nil)))
      (pss_cons (ps_for PassesOwn.never rfl (pi_range1 (by rfl) T.range (pa_cons (pe_ix ix_tup (pv 0) pe_int (fun _ _ => rfl)) pa_nil)) (pg_name (i := 3) scCome.nd rfl (.inl rfl))
        (pss_one (ps_for PassesOwn.never rfl (pi_tup (pv 1)) (pg_name (i := 4) scCome.nd rfl (.inl rfl))
          (pss_cons (ps_set (i := 5) scCome.nd rfl (.inl rfl) (pe_ix ix_tup (pe_ix ix_tup (pv 0) pe_int (fun _ _ => rfl)) (pv 4) (fun _ _ => rfl)))
          (pss_one (ps_for PassesOwn.never rfl (pi_tup (pe_call G hr (by rfl) D.m D.F.kp D.b .nil pass0 (pa_cons (pv 5) pa_nil))) (pg_name (i := 6) scCome.nd rfl (.inl rfl))
            (pss_cons (ps_set (i := 7) scCome.nd rfl (.inl rfl) (pe_op op_sub (pe_op op_add (pe_ix ix_tup (pv 5) pe_int (fun _ _ => rfl)) (pe_ix ix_tup (pv 5) pe_int (fun _ _ => rfl))) (pv 6)))
            (pss_one (ps_if (PW.pt (pw_and (pt_cmpR op_in_seq (pv 6) (pv 2) (by rfl)) (pw_and1 (pt_cmpR op_notIn_seq (pv 7) (pv 2) (by rfl)))))
              (pss_one (ps_expr (pe_bm PySem.F.plainAttrs_list PySem.F.slot_list_append PySem.F.type_list_append mt_append (pv 2) (pa_cons (pv 7) pa_nil)))) pss_nil)))))))))
      (pss_one (ps_ret (pe_callB cr_sorted (by rfl) T.sorted (by decide +kernel) (pa_cons (pv 2) pa_nil))))), ?_⟩
    have h9 := ok.nine
    have h1 := ok.one
    -- found = [0]
    refine ⟨line1, fun o no => ?_⟩
    have f0 : Fnd H (upd H o (.lst [.int 0])) o many ws lot [0] := Fnd.start ok.one no
    -- for turn in range(yard[0])
    refine ⟨_, rfl, y, _, 0, _, rfl, rfl, Same.tup f0.same hY, atI_nat (j := 0) rfl, many, rfl, by omega, by omega, for_range (lo := 0) (n := many.toNat) (fun t σ H' => ∃ (fl : List Int) (v3 v4 v5 v6 v7 : Option V),
      σ = [some (.ref y), some (.ref l), some (.ref o), v3, v4, v5, v6, v7] ∧ Fnd H H' o many ws lot fl ∧ ((∀ n ∈ lot, Shut ws fl n) ∨ t < fl.length))
      ⟨[0], none, none, none, none, none, rfl, f0, .inr (Nat.zero_lt_one)⟩ (fun t σ H1 ht hp => ?_) (fun σ H1 hp => ?_)⟩
    · obtain ⟨fl, v3, v4, v5, v6, v7, rfl, f1, hst⟩ := hp
      -- for number in lot
      refine ⟨_, rfl, l, rfl, ⟨_, Same.tup f1.same hL⟩, for_tup (K := K) (a := l) (xs := lotV lot) (fun i σ H' => ∃ (fl' : List Int) (v3 v4 v5 v6 v7 : Option V), σ = [some (.ref y), some (.ref l), some (.ref o), v3, v4, v5, v6, v7] ∧ Fnd H H' o many ws lot fl' ∧
        (fl' = fl ∧ (∀ n ∈ lot.take i, Shut ws fl n) ∨ fl.length < fl'.length ∧ ¬ ∀ n ∈ lot, Shut ws fl n))
        ⟨fl, _, _, _, _, _, rfl, f1, .inl ⟨rfl, fun n hn => by simp at hn⟩⟩
        (fun i σ H' _ hp => by
          obtain ⟨_, _, _, _, _, _, _, ff, _⟩ := hp
          exact Same.tup ff.same hL) (fun i x σ H2 hx hp => ?_) (fun σ H2 hp => ?_)⟩
      · obtain ⟨fl', v3, v4, v5, v6, v7, rfl, f2, hc2⟩ := hp
        obtain ⟨n, hn, rfl⟩ := lotV_inv hx
        have hnm : n ∈ lot := List.mem_of_getElem? hn
        have hnw : n < ws.length := hlt n hnm
        have hw : ws[n]? = some ws[n] := List.getElem?_eq_getElem hnw
        have wok := ok.walls _ (List.getElem_mem hnw)
        generalize ws[n] = ww at hw wok
        have hna : n < as.length := by omega
        have ha : as[n]? = some as[n] := List.getElem?_eq_getElem hna
        generalize as[n] = aw at ha
        have hav : (as.map V.ref)[n]? = some (.ref aw) := by
          rw [List.getElem?_map, ha]
          rfl
        have hA2 : ∀ {H' : Hp}, Same H H' → SqT K H' aw (wallV ww) := fun e => Same.tup e (hAt n aw ww ha hw)
        -- shut = yard[1][number]
        refine ⟨_, rfl, y, _, 1, _, rfl, rfl, Same.tup f2.same hY, atI_nat (j := 1) rfl, _, rfl, wa, _, (n : Int), _, rfl, rfl, Same.tup f2.same hW, atI_nat hav, ?_⟩
        -- for side in sides(shut)
        refine ⟨_, rfl, aw, ww, rfl, hA2 f2.same, wok.s0, wok.s2, fun H3 p e3 hp3 => ?_⟩
        have f3 := f2.step e3
        refine ⟨p, rfl, ⟨_, hp3⟩, for_tup (K := K) (a := p) (xs := ww.told.map V.int) (fun j σ H' => ∃ (fl'' : List Int) (v6 v7 : Option V), σ = [some (.ref y), some (.ref l), some (.ref o), v3, some (.int (n : Int)), some (.ref aw), v6, v7] ∧ Fnd H H' o many ws lot fl'' ∧ But o H3 H' ∧
          (fl'' = fl ∧ (∀ n ∈ lot.take i, Shut ws fl n) ∧ (∀ r ∈ ww.told.take j, r ∈ fl → ww.lo + ww.hi - r ∈ fl) ∨ fl.length < fl''.length ∧ ¬ ∀ n ∈ lot, Shut ws fl n))
          ⟨fl', v6, v7, rfl, f3, But.refl o H3, hc2.imp (fun z => ⟨z.1, z.2, fun r hr => by simp at hr⟩) id⟩ (fun j σ H' _ hp => ?_) (fun j x σ H4 hx hp => ?_) (fun σ H4 hp => ?_)⟩
        · obtain ⟨_, _, _, _, ff, kk, _⟩ := hp
          exact But.tup kk f3.at_ hp3
        · obtain ⟨fl'', v6, v7, rfl, f4, kk, hc4⟩ := hp
          obtain ⟨side, hside, rfl⟩ := map_int_at hx
          have hsm : side ∈ ww.told := List.mem_of_getElem? hside
          -- what a turn that finds nothing new leaves
          have quiet : (side ∈ fl'' → ww.lo + ww.hi - side ∈ fl'') → (fl'' = fl ∧ (∀ n ∈ lot.take i, Shut ws fl n) ∧ (∀ r ∈ ww.told.take (j + 1), r ∈ fl → ww.lo + ww.hi - r ∈ fl) ∨ fl.length < fl''.length ∧ ¬ ∀ n ∈ lot, Shut ws fl n) := fun hno => by
            rcases hc4 with ⟨a1, a2, a3⟩ | z
            · refine .inl ⟨a1, a2, fun r hr => ?_⟩
              rw [take_oneI hside] at hr
              rcases List.mem_append.mp hr with hr | hr
              · exact a3 r hr
              · rw [List.mem_singleton.mp hr, ← a1]
                exact hno
            · exact .inr z
          -- other = shut[0] + shut[1] - side
          refine ⟨_, rfl, aw, _, 0, _, rfl, rfl, hA2 f4.same, atI_nat (j := 0) rfl, _, rfl, aw, _, 1, _, rfl, rfl, hA2 f4.same, atI_nat (j := 1) rfl, _, _, rfl, rfl, _, rfl, _, _, rfl, rfl, ?_⟩
          -- side in found
          refine ⟨_, rfl, _, rfl, o, _, rfl, .inl (SqL.of f4.at_), rfl, flat_ints _, _, rfl, ?_⟩
          refine ite2 (fun c => ?_) (fun c => ?_)
          · have c1 : side ∈ fl'' := of_decide_eq_true ((inV_ints side fl'').symm.trans c)
            refine ⟨_, rfl, _, rfl, o, _, rfl, .inl (SqL.of f4.at_), rfl, flat_ints _, _, rfl, ?_⟩
            refine ite2 (fun c => ?_) (fun c => ?_)
            · have c2 : ww.lo + ww.hi - side ∉ fl'' := by
                have z : (!inV (.int (ww.lo + ww.hi - side)) (fl''.map V.int)) = true := c
                rw [inV_ints] at z
                simpa using z
              have hr2 : Reach ws lot (ww.lo + ww.hi - side) ∧ 0 ≤ ww.lo + ww.hi - side ∧ ww.lo + ww.hi - side < many := by
                have hone := f4.reach side c1
                have b1 := wok.lo0
                have b2 := wok.lt
                have b3 := wok.hiN
                rcases told_two hsm with e | e
                · rw [e] at hone hsm ⊢
                  rw [show ww.lo + ww.hi - ww.lo = ww.hi by omega]
                  exact ⟨.up hnm hw hsm hone, by omega, by omega⟩
                · rw [e] at hone hsm ⊢
                  rw [show ww.lo + ww.hi - ww.hi = ww.lo by omega]
                  exact ⟨.down hnm hw hsm hone, by omega, by omega⟩
              refine ⟨_, rfl, .inl ⟨rfl, _, SqL.of f4.at_⟩, _, rfl, o, _, _, rfl, rfl, f4.at_, ?_, ?_⟩
              · rw [List.length_map]
                have l1 := f4.len
                exact small1000 (by omega)
              · refine ⟨_, _, _, rfl, f4.add c2 hr2.1 hr2.2, kk.trans (but_upd _), .inr ?_⟩
                rw [List.length_append, List.length_singleton]
                rcases hc4 with ⟨a1, a2, a3⟩ | ⟨a1, a2⟩
                · rw [a1]
                  refine ⟨by omega, fun cl => c2 ?_⟩
                  have z := cl n hnm ww hw
                  rw [a1] at c1 ⊢
                  rcases told_two hsm with e | e
                  · rw [e] at c1 hsm ⊢
                    rw [show ww.lo + ww.hi - ww.lo = ww.hi by omega]
                    exact z.1 hsm c1
                  · rw [e] at c1 hsm ⊢
                    rw [show ww.lo + ww.hi - ww.hi = ww.lo by omega]
                    exact z.2 hsm c1
                · exact ⟨by omega, a2⟩
            · have c2 : ww.lo + ww.hi - side ∈ fl'' := by
                by_cases z : ww.lo + ww.hi - side ∈ fl''
                · exact z
                · refine absurd ?_ c
                  show (!inV (.int (ww.lo + ww.hi - side)) (fl''.map V.int)) = true
                  rw [inV_ints, decide_eq_false z]
                  rfl
              exact ⟨_, _, _, rfl, f4, kk, quiet fun _ => c2⟩
          · have c1 : side ∉ fl'' := fun z => c ((inV_ints side fl'').trans (decide_eq_true z))
            exact ⟨_, _, _, rfl, f4, kk, quiet fun z => absurd z c1⟩
        · obtain ⟨fl'', v6, v7, rfl, f4, kk, hc4⟩ := hp
          refine ⟨fl'', _, _, _, _, _, rfl, f4, ?_⟩
          rcases hc4 with ⟨a1, a2, a3⟩ | z
          · refine .inl ⟨a1, fun k hk => ?_⟩
            rw [take_one hn] at hk
            rcases List.mem_append.mp hk with hk | hk
            · exact a2 k hk
            · rw [List.mem_singleton.mp hk]
              intro w' hw'
              rw [hw] at hw'
              cases hw'
              rw [List.length_map, List.take_length] at a3
              refine ⟨fun b1 b2 => ?_, fun b1 b2 => ?_⟩
              · have z := a3 _ b1 b2
                rw [show ww.lo + ww.hi - ww.lo = ww.hi by omega] at z
                exact z
              · have z := a3 _ b1 b2
                rw [show ww.lo + ww.hi - ww.hi = ww.lo by omega] at z
                exact z
          · exact .inr z
      · obtain ⟨fl', v3, v4, v5, v6, v7, rfl, f2, hc2⟩ := hp
        refine ⟨fl', _, _, _, _, _, rfl, f2, ?_⟩
        rcases hc2 with ⟨a1, a2⟩ | ⟨a1, a2⟩
        · rw [lotV_len, List.take_length] at a2
          rw [a1]
          exact .inl a2
        · rcases hst with z | z
          · exact absurd z a2
          · exact .inr (by omega)
    · obtain ⟨fl, v3, v4, v5, v6, v7, rfl, f1, hst⟩ := hp
      have l1 := f1.len
      have hsh : ∀ n ∈ lot, Shut ws fl n := hst.resolve_right (by omega)
      refine ⟨_, rfl, o, fl, rfl, SqL.of f1.at_, by omega, fun ns' p hp _ np => ?_⟩
      refine q _ p ns' (f1.same.trans (same_upd _ np)) (SqL.of upd_same) fun r => ?_
      rw [hp.mem_iff]
      exact ⟨f1.reach r, reach_in f1.zero hsh⟩
end
end K02

/-! K02C -/
/-! is_ready, is_growth, has_order. -/
namespace K02
open PySem PySem.Spec PyProof.Rows L2
/-! the rules within a comprehension's block: there the written part is to be named -/
section
variable {X : Cx} {K : PySem.W.Frag}
theorem pi_tupK {tg l : Expr} {tl : TE} (h : X.K = K) (hl : PE X l tl) : PI X tg l (iTup K tl) := by
  subst h
  exact pi_tup hl
theorem ix_tupK (h : X.K = K) : IxR X (rIxT K) := by
  subst h
  exact ix_tup
theorem ix_seqK (h : X.K = K) : IxR X (rIx K) := by
  subst h
  exact ix_seq
theorem inK (h : X.K = K) : OpR X (compareOp .In) (rIn K false) := by
  subst h
  exact op_in_seq
theorem notInK (h : X.K = K) : OpR X (compareOp .NotIn) (rIn K true) := by
  subst h
  exact op_notIn_seq
theorem anyK (h : X.K = K) (hc : X.calm = true) : CallR X (.builtin "any") (rAny K) := by
  subst h
  exact cr_any hc
end

/-- [room in rooms for room in sides]: i the block's own slot, j that of rooms -/
theorem lc_in {K : PySem.W.Frag} {σ : L2.St} {H1 : Hp} {t p D : Addr} {i j : Nat} {told rs : List Int} {Qd : Hp → Prop} (nD : H1 D = none) (ht : SqT K H1 t (told.map V.int)) (hp : SqL K H1 p (rs.map V.int)) (hk : told.length ≤ 2)
    (hi : ∀ a : V, ((wipe σ [i]).set i (some a))[i]? = some (some a)) (hj : ∀ a : V, ((wipe σ [i]).set i (some a))[j]? = some (some (.ref p))) (hw : ∀ a : V, wipe ((wipe σ [i]).set i (some a)) [i] = wipe σ [i])
    (hd : ∀ H', Same H1 H' → H' D = some (.lst ((told.map fun r => decide (r ∈ rs)).map V.bl)) → Qd H') :
    ∃ W : Nat → Nat → Hp → Prop, (∃ m, W 0 m (upd H1 D (.lst []))) ∧ ∀ k m H, W k m H → ((Itt K t).stop k H ∧ Qd H) ∨ ((Itt K t).go k H ∧ ∃ Nx : Hp → Prop, (∀ H', Nx H' → ∃ m', m' < m ∧ W (k + 1) m' H') ∧
      ∀ x H', (Itt K t).yld k H x H' → gName i x (wipe σ [i]) H' fun σ2 H2 => wipe σ2 [i] = wipe σ [i] ∧ tYes σ2 H2 fun b H3 =>
        if b = true then tOp (rIn K false) (tVar i) (tVar j) σ2 H3 fun y H4 => ∃ acc, H4 D = some (.lst acc) ∧ acc.length < sizeLine ∧ Nx (upd H4 D (.lst (acc ++ [y]))) else Nx H3) := by
  refine lc_tup (K := K) (a := t) (xs := told.map V.int) (fun k H' => Same H1 H' ∧ H' D = some (.lst (((told.take k).map fun r => decide (r ∈ rs)).map V.bl)))
    ⟨same_upd _ nD, upd_same⟩ (fun k H' _ h => Same.tup h.1 ht) (fun k x H' hx h => ?_) (fun H' h => ?_)
  · obtain ⟨e, hD⟩ := h
    obtain ⟨a, ha, rfl⟩ := map_int_at hx
    have hk2 : k < 2 := Nat.lt_of_lt_of_le (List.getElem?_eq_some_iff.mp ha).1 hk
    refine ⟨hw _, _, hi _, _, hj _, p, _, rfl, .inl (Same.seq e hp), rfl, flat_ints _, _, hD, ?_, Same.but_new e nD (but_upd _), ?_⟩
    · rw [List.length_map, List.length_map, List.length_take]
      exact small1000 (by omega)
    · rw [upd_same, take_oneI ha, List.map_append, List.map_append]
      show some (HO.lst (_ ++ [V.bl (inV (.int a) (rs.map V.int))])) = _
      rw [inV_ints]
      rfl
  · obtain ⟨e, hD⟩ := h
    rw [List.length_map, List.take_length] at hD
    exact hd H' e hD
theorem any_in (told rs : List Int) : ((told.map fun r => decide (r ∈ rs)).any id = true) ↔ ∃ r, r ∈ told ∧ r ∈ rs := by
  rw [List.any_map, List.any_eq_true]
  constructor
  · rintro ⟨r, h1, h2⟩
    exact ⟨r, h1, of_decide_eq_true h2⟩
  · rintro ⟨r, h1, h2⟩
    exact ⟨r, h1, decide_eq_true h2⟩
noncomputable def rdy (ws : List Wall) (lot : List Nat) (n : Nat) : Bool := @decide (Ready ws lot n) (Classical.propDecidable _)
theorem rdy_iff {ws : List Wall} {lot : List Nat} {n : Nat} : rdy ws lot n = true ↔ Ready ws lot n := by
  unfold rdy
  exact @decide_eq_true_iff (Ready ws lot n) (Classical.propDecidable _)
/-- what any(..) of a wall tells -/
theorem ready_any {ws : List Wall} {lot : List Nat} {n : Nat} {ww : Wall} {rs : List Int} (hw : ws[n]? = some ww) (hrs : ∀ r, r ∈ rs ↔ Reach ws lot r) : ((ww.told.map fun r => decide (r ∈ rs)).any id = true) ↔ Ready ws lot n := by
  rw [any_in]
  constructor
  · rintro ⟨r, h1, h2⟩
    exact ⟨ww, hw, r, h1, (hrs r).mp h2⟩
  · rintro ⟨w', h1, r, h2, h3⟩
    rw [hw] at h1
    cases h1
    exact ⟨r, h2, (hrs r).mpr h3⟩
theorem ready_rdy {ws : List Wall} {lot : List Nat} {n : Nat} {ww : Wall} {rs : List Int} (hw : ws[n]? = some ww) (hrs : ∀ r, r ∈ rs ↔ Reach ws lot r) : (ww.told.map fun r => decide (r ∈ rs)).any id = rdy ws lot n := by
  rw [Bool.eq_iff_iff, ready_any hw hrs, rdy_iff]

section
variable {P : Program} {w : World} {K : PySem.W.Frag} {mg : Str → Option Value} {base : Heap}

theorem ok_ready {f g1 g2 : Addr} {fd gd1 gd2 : FuncData} (F : Fun K "is_ready" "is_ready" sReady f fd) (D1 : Df K mg "sides_of" sSides ["wall"] g1 gd1) (D2 : Df K mg "reached" sReached ["yard", "lot"] g2 gd2)
    (G2 : FnOk P w K mg base CX0 2 g2 gd2 ["yard", "lot"] (spReached K)) (T : Txt mg) : FnOk P w K mg base CX0 3 f fd ["yard", "lot", "number"] (spReady K) := by
  have G1 : FnOk P w K mg base CX0 1 g1 gd1 ["wall"] (spSides K) := ok_sides D1.F
  refine F.ok scReady (fun vs H Q E h => ?_) (fun cdv A outer s H vs Q E hr h => ?_)
  · obtain ⟨y, l, n, many, ws, lot, rfl, _⟩ := h
    rfl
  · obtain ⟨y, l, n, many, ws, lot, rfl, hYard, ok, hL, hlt, hnw, q⟩ := h
    obtain ⟨wa, as, hY, hW, hlen, hAt⟩ := id hYard
    have hr1 : Room 1 _ := hr.mono (by decide)
    refine ⟨_, (pss_cons (ps_set (i := 3) scReady.nd rfl (.inr rfl) (pe_call G2 hr (by rfl) D2.m D2.F.kp D2.b .nil pass0 (pa_cons (pv 0) (pa_cons (pv 1) pa_nil))))
      (pss_one (ps_ret (pe_callB (cr_any rfl) (by rfl) T.any (by decide +kernel) (pa_cons (pe_lc (own := [("room", 4)]) (g := gName 4) (tt := tYes) rfl scReady.nd (pi_tup (pe_call G1 hr1 (by rfl) D1.m D1.F.kp D1.b .nil pass0 (pa_cons (pe_ix ix_tup (pe_ix ix_tup (pv 0) pe_int (fun _ _ => rfl)) (pv 2) (fun _ _ => rfl)) pa_nil))) (blkOk_by (by show blkC ["yard", "lot", "number", "rooms", "room"] (defScope sReady) _ _ = true; decide +kernel)) (fun _ _ _ _ _ => pg_name (i := 4) scReady.nd rfl (Or.inl rfl)) (fun _ _ _ _ _ => pts_nil) (fun _ _ _ _ _ => (pe_cmpR (inK (K := K) rfl) (pv 4) (pv 3) (by rfl)))) pa_nil))))), ?_⟩
    have hw : ws[n]? = some ws[n] := List.getElem?_eq_getElem hnw
    have wok := ok.walls _ (List.getElem_mem hnw)
    generalize ws[n] = ww at hw wok
    have hna : n < as.length := by omega
    have ha : as[n]? = some as[n] := List.getElem?_eq_getElem hna
    generalize as[n] = aw at ha
    have hav : (as.map V.ref)[n]? = some (.ref aw) := by
      rw [List.getElem?_map, ha]
      rfl
    -- rooms = reached(yard, lot)
    refine ⟨_, rfl, _, rfl, y, l, many, ws, lot, rfl, hYard, ok, hL, hlt, fun H1 p rs e1 hp hrs => ?_⟩
    -- sides_of(yard[1][number])
    refine ⟨_, rfl, y, _, 1, _, rfl, rfl, Same.tup e1 hY, atI_nat (j := 1) rfl, _, rfl, wa, _, (n : Int), _, rfl, rfl, Same.tup e1 hW, atI_nat hav, aw, ww, rfl, Same.tup e1 (hAt n aw ww ha hw), wok.s0, wok.s2, fun H2 t e2 ht => ?_⟩
    refine ⟨t, rfl, ⟨_, ht⟩, fun D nD => lc_in nD ht (Same.seq e2 hp) (told_len ww) (fun _ => rfl) (fun _ => rfl) (fun _ => rfl) fun H3 e3 hD => ?_⟩
    exact ⟨D, _, rfl, SqL.of hD, q H3 _ (e1.trans (e2.trans e3)) (ready_any hw hrs)⟩

theorem ok_growth {f g1 g2 : Addr} {fd gd1 gd2 : FuncData} (F : Fun K "is_growth" "is_growth" sGrowth f fd) (D1 : Df K mg "sides_of" sSides ["wall"] g1 gd1) (D2 : Df K mg "reached" sReached ["yard", "lot"] g2 gd2)
    (G2 : FnOk P w K mg base CX0 2 g2 gd2 ["yard", "lot"] (spReached K)) (T : Txt mg) : FnOk P w K mg base CX0 3 f fd ["yard", "lot"] (spGrowth K) := by
  have G1 : FnOk P w K mg base CX0 1 g1 gd1 ["wall"] (spSides K) := ok_sides D1.F
  refine F.ok scGrowth (fun vs H Q E h => ?_) (fun cdv A outer s H vs Q E hr h => ?_)
  · obtain ⟨y, l, many, ws, lot, rfl, _⟩ := h
    rfl
  · obtain ⟨y, l, many, ws, lot, rfl, hYard, ok, hL, hlt, h12, q⟩ := h
    obtain ⟨wa, as, hY, hW, hlen, hAt⟩ := id hYard
    have hr1 : Room 1 _ := hr.mono (by decide)
    refine ⟨_, (pss_cons (ps_set (i := 2) scGrowth.nd rfl (.inr rfl) (pe_call G2 hr (by rfl) D2.m D2.F.kp D2.b .nil pass0 (pa_cons (pv 0) (pa_cons (pv 1) pa_nil))))
      (pss_one (ps_ret (pe_callB (cr_all rfl) (by rfl) T.all (by decide +kernel) (pa_cons (pe_lc (own := [("number", 3)]) (g := gName 3) (tt := tYes) rfl scGrowth.nd (pi_tup (pv 1)) (blkOk_by (by show blkC ["yard", "lot", "rooms", "number", "room"] (defScope sGrowth) _ _ = true; decide +kernel)) (fun _ _ _ _ _ => pg_name (i := 3) scGrowth.nd rfl (Or.inl rfl)) (fun _ _ _ _ _ => pts_nil) (fun _ _ _ _ _ => (pe_callB (anyK (K := K) rfl rfl) (by rfl) T.any (by decide +kernel) (pa_cons (pe_lc (own := [("room", 4)]) (g := gName 4) (tt := tYes) rfl scGrowth.nd (pi_tupK (K := K) rfl (pe_call G1 hr1 (by rfl) D1.m D1.F.kp D1.b .nil pass0 (pa_cons (pe_ix (ix_tupK (K := K) rfl) (pe_ix (ix_tupK (K := K) rfl) (pv 0) pe_int (fun _ _ => rfl)) (pv 3) (fun _ _ => rfl)) pa_nil))) (blkOk_by (by show blkC ["yard", "lot", "rooms", "number", "room"] (relS _ (defScope sGrowth)) _ _ = true; decide +kernel)) (fun _ _ _ _ _ => pg_name (i := 4) scGrowth.nd rfl (Or.inl rfl)) (fun _ _ _ _ _ => pts_nil) (fun _ _ _ _ _ => (pe_cmpR (inK (K := K) rfl) (pv 4) (pv 2) (by rfl)))) pa_nil)))) pa_nil))))), ?_⟩
    -- rooms = reached(yard, lot)
    refine ⟨_, rfl, _, rfl, y, l, many, ws, lot, rfl, hYard, ok, hL, hlt, fun H1 p rs e1 hp hrs => ?_⟩
    have hL1 := Same.tup e1 hL
    refine ⟨_, rfl, l, rfl, ⟨_, hL1⟩, fun D nD => lc_tup (K := K) (a := l) (xs := lotV lot) (fun i H' => Same H1 H' ∧ H' D = some (.lst (((lot.take i).map (rdy ws lot)).map V.bl)))
      ⟨same_upd _ nD, upd_same⟩ (fun i H' _ h => Same.tup h.1 hL1) (fun i x H2 hx h => ?_) (fun H2 h => ?_)⟩
    · obtain ⟨e2, hD2⟩ := h
      obtain ⟨n, hn, rfl⟩ := lotV_inv hx
      have hi12 : i < 12 := Nat.lt_of_lt_of_le (List.getElem?_eq_some_iff.mp hn).1 h12
      have hnw : n < ws.length := hlt n (List.mem_of_getElem? hn)
      have hw : ws[n]? = some ws[n] := List.getElem?_eq_getElem hnw
      have wok := ok.walls _ (List.getElem_mem hnw)
      generalize ws[n] = ww at hw wok
      have hna : n < as.length := by omega
      have ha : as[n]? = some as[n] := List.getElem?_eq_getElem hna
      generalize as[n] = aw at ha
      have hav : (as.map V.ref)[n]? = some (.ref aw) := by
        rw [List.getElem?_map, ha]
        rfl
      have e12 := e1.trans e2
      refine ⟨rfl, ?_⟩
      refine ⟨_, rfl, y, _, 1, _, rfl, rfl, Same.tup e12 hY, atI_nat (j := 1) rfl, _, rfl, wa, _, (n : Int), _, rfl, rfl, Same.tup e12 hW, atI_nat hav, aw, ww, rfl, Same.tup e12 (hAt n aw ww ha hw), wok.s0, wok.s2, fun H3 t e3 ht => ?_⟩
      refine ⟨t, rfl, ⟨_, ht⟩, fun D2 nD2 => lc_in nD2 ht (Same.seq (e2.trans e3) hp) (told_len ww) (fun _ => rfl) (fun _ => rfl) (fun _ => rfl) fun H4 e4 hD4 => ?_⟩
      have e24 := e2.trans (e3.trans e4)
      refine ⟨D2, _, rfl, SqL.of hD4, _, e4 _ _ (e3 _ _ hD2), ?_, Same.but_new e24 nD (but_upd _), ?_⟩
      · rw [List.length_map, List.length_map, List.length_take]
        exact small1000 (by omega)
      · rw [upd_same, take_one hn, List.map_append, List.map_append, ready_rdy hw hrs]
        rfl
    · obtain ⟨e2, hD2⟩ := h
      rw [lotV_len, List.take_length] at hD2
      refine ⟨D, _, rfl, SqL.of hD2, q H2 _ (e1.trans e2) ?_⟩
      rw [List.all_map, List.all_eq_true]
      exact ⟨fun h n hn => rdy_iff.mp (h n hn), fun h n hn => rdy_iff.mpr (h n hn)⟩

theorem ok_has {f g1 g2 g3 g4 : Addr} {fd gd1 gd2 gd3 gd4 : FuncData} (F : Fun K "has_order" "has_order" sHas f fd) (D1 : Df K mg "sides_of" sSides ["wall"] g1 gd1) (D2 : Df K mg "reached" sReached ["yard", "lot"] g2 gd2)
    (G2 : FnOk P w K mg base CX0 2 g2 gd2 ["yard", "lot"] (spReached K)) (D3 : Df K mg "every" sEvery ["yard"] g3 gd3) (D4 : Df K mg "need_yard" sNeedY ["value"] g4 gd4) (G4 : FnOk P w K mg base CX0 4 g4 gd4 ["value"] (spNeedY K)) (T : Txt mg) :
    FnOk P w K mg base CX0 5 f fd ["yard"] (spHas K) := by
  have G1 : FnOk P w K mg base CX0 1 g1 gd1 ["wall"] (spSides K) := ok_sides D1.F
  have G3 : FnOk P w K mg base CX0 1 g3 gd3 ["yard"] (spEvery K) := ok_every D3.F T
  refine F.ok scHas (fun vs H Q E h => ?_) (fun cdv A outer s H vs Q E hr h => ?_)
  · obtain ⟨y, many, ws, rfl, _⟩ := h
    rfl
  · obtain ⟨y, many, ws, rfl, hYard, ok, q⟩ := h
    obtain ⟨wa, as, hY, hW, hlen, hAt⟩ := id hYard
    have hr1 : Room 1 _ := hr.mono (by decide)
    have hr2 : Room 2 _ := hr.mono (by decide)
    refine ⟨_, (pss_cons (ps_expr (pe_call G4 hr (by rfl) D4.m D4.F.kp D4.b .nil pass0 (pa_cons (pv 0) pa_nil)))
      (pss_cons (ps_set (i := 1) scHas.nd rfl (.inr rfl) (pe_call G2 hr2 (by rfl) D2.m D2.F.kp D2.b .nil pass0 (pa_cons (pv 0) (pa_cons (pe_call G3 hr1 (by rfl) D3.m D3.F.kp D3.b .nil pass0 (pa_cons (pv 0) pa_nil)) pa_nil))))
      (pss_one (ps_ret (pe_callB (cr_all rfl) (by rfl) T.all (by decide +kernel) (pa_cons (pe_lc (own := [("wall", 2)]) (g := gName 2) (tt := tYes) rfl scHas.nd (pi_tup (pe_ix ix_tup (pv 0) pe_int (fun _ _ => rfl))) (blkOk_by (by show blkC ["yard", "rooms", "wall", "room"] (defScope sHas) _ _ = true; decide +kernel)) (fun _ _ _ _ _ => pg_name (i := 2) scHas.nd rfl (Or.inl rfl)) (fun _ _ _ _ _ => pts_nil) (fun _ _ _ _ _ => (pe_callB (anyK (K := K) rfl rfl) (by rfl) T.any (by decide +kernel) (pa_cons (pe_lc (own := [("room", 3)]) (g := gName 3) (tt := tYes) rfl scHas.nd (pi_tupK (K := K) rfl (pe_call G1 hr1 (by rfl) D1.m D1.F.kp D1.b .nil pass0 (pa_cons (pv 2) pa_nil))) (blkOk_by (by show blkC ["yard", "rooms", "wall", "room"] (relS _ (defScope sHas)) _ _ = true; decide +kernel)) (fun _ _ _ _ _ => pg_name (i := 3) scHas.nd rfl (Or.inl rfl)) (fun _ _ _ _ _ => pts_nil) (fun _ _ _ _ _ => (pe_cmpR (inK (K := K) rfl) (pv 3) (pv 1) (by rfl)))) pa_nil)))) pa_nil)))))), ?_⟩
    have h12 := ok.twelve
    refine ⟨_, rfl, y, many, ws, rfl, hYard, ok, fun H1 e1 => ?_⟩
    refine ⟨_, rfl, _, rfl, y, many, ws, rfl, YardAt.same e1 hYard, h12, fun H2 l e2 hL => ?_⟩
    refine ⟨y, l, many, ws, every ws, rfl, YardAt.same e2 (YardAt.same e1 hYard), ok, hL, fun n hn => every_mem.mp hn, fun H3 p rs e3 hp hrs => ?_⟩
    have e13 := e1.trans (e2.trans e3)
    have hW1 := Same.tup e13 hW
    refine ⟨_, rfl, y, _, 1, _, rfl, rfl, Same.tup e13 hY, atI_nat (j := 1) rfl, wa, rfl, ⟨_, hW1⟩, fun D nD => lc_tup (K := K) (a := wa) (xs := as.map V.ref) (fun i H' => Same H3 H' ∧ H' D = some (.lst (((List.range i).map (rdy ws (every ws))).map V.bl)))
      ⟨same_upd _ nD, upd_same⟩ (fun i H' _ h => Same.tup h.1 hW1) (fun i x H4 hx h => ?_) (fun H4 h => ?_)⟩
    · obtain ⟨e4, hD4⟩ := h
      rw [List.getElem?_map] at hx
      cases ha : as[i]? with
      | none =>
        rw [ha] at hx
        cases hx
      | some aw =>
        rw [ha] at hx
        have ex : V.ref aw = x := Option.some.inj hx
        subst ex
        have hia := (List.getElem?_eq_some_iff.mp ha).1
        have hnw : i < ws.length := by omega
        have hw : ws[i]? = some ws[i] := List.getElem?_eq_getElem hnw
        have wok := ok.walls _ (List.getElem_mem hnw)
        generalize ws[i] = ww at hw wok
        refine ⟨rfl, ?_⟩
        refine ⟨_, rfl, aw, ww, rfl, Same.tup (e13.trans e4) (hAt i aw ww ha hw), wok.s0, wok.s2, fun H5 t e5 ht => ?_⟩
        refine ⟨t, rfl, ⟨_, ht⟩, fun D2 nD2 => lc_in nD2 ht (Same.seq (e4.trans e5) hp) (told_len ww) (fun _ => rfl) (fun _ => rfl) (fun _ => rfl) fun H6 e6 hD6 => ?_⟩
        have e46 := e4.trans (e5.trans e6)
        refine ⟨D2, _, rfl, SqL.of hD6, _, e6 _ _ (e5 _ _ hD4), ?_, Same.but_new e46 nD (but_upd _), ?_⟩
        · rw [List.length_map, List.length_map, List.length_range]
          exact small1000 (by omega)
        · rw [upd_same, List.range_succ, List.map_append, List.map_append, ready_rdy hw hrs]
          rfl
    · obtain ⟨e4, hD4⟩ := h
      rw [List.length_map, hlen] at hD4
      refine ⟨D, _, rfl, SqL.of hD4, q H4 _ (e13.trans e4) ?_⟩
      rw [List.all_map, List.all_eq_true]
      exact ⟨fun h n hn => rdy_iff.mp (h n hn), fun h n hn => rdy_iff.mpr (h n hn)⟩
end
end K02

/-! K02D -/
/-! first_order, last_order. -/
namespace K02
open PySem PySem.Spec PyProof.Rows L2

section
variable {X : Cx} {K : PySem.W.Frag}
theorem ix_listK (h : X.K = K) : IxR X (rIxL K) := by
  subst h
  exact ix_list
end
theorem dec_nat (a c : Nat) : decide (V.int (a : Int) = V.int (c : Int)) = decide (a = c) := by
  rw [decide_eq_decide, V.int.injEq]
  omega
theorem less_add (l : List Nat) (n c : Nat) : less (l ++ [n]) c = less l c ++ (if n = c then [] else [n]) := by
  unfold less
  rw [List.filter_append]
  by_cases e : n = c
  · simp [e]
  · simp [e]
theorem less_le (l : List Nat) (c : Nat) : (less l c).length ≤ l.length := List.length_filter_le _ _
theorem lotV_add (l : List Nat) (n : Nat) : lotV l ++ [V.int (n : Int)] = lotV (l ++ [n]) := by
  unfold lotV
  rw [List.map_append]
  rfl
/-- [one for one in left if one != c], whatever the text of c is -/
theorem lc_less {K : PySem.W.Frag} {σ : L2.St} {H1 : Hp} {L D : Addr} {i c : Nat} {left : List Nat} {tt : TT} {Qd : Hp → Prop} (nD : H1 D = none) (hL : SqT K H1 L (lotV left)) (h12 : left.length ≤ 12)
    (htt : ∀ (a : Nat) (H' : Hp) (Q : Bool → Hp → Prop), Same H1 H' → Q (!decide (a = c)) H' → tt ((wipe σ [i]).set i (some (.int (a : Int)))) H' Q)
    (hi : ∀ a : V, ((wipe σ [i]).set i (some a))[i]? = some (some a)) (hw : ∀ a : V, wipe ((wipe σ [i]).set i (some a)) [i] = wipe σ [i])
    (hd : ∀ H', Same H1 H' → H' D = some (.lst (lotV (less left c))) → Qd H') :
    ∃ W : Nat → Nat → Hp → Prop, (∃ m, W 0 m (upd H1 D (.lst []))) ∧ ∀ k m H, W k m H → ((Itt K L).stop k H ∧ Qd H) ∨ ((Itt K L).go k H ∧ ∃ Nx : Hp → Prop, (∀ H', Nx H' → ∃ m', m' < m ∧ W (k + 1) m' H') ∧
      ∀ x H', (Itt K L).yld k H x H' → gName i x (wipe σ [i]) H' fun σ2 H2 => wipe σ2 [i] = wipe σ [i] ∧ tt σ2 H2 fun b H3 =>
        if b = true then tVar i σ2 H3 fun y H4 => ∃ acc, H4 D = some (.lst acc) ∧ acc.length < sizeLine ∧ Nx (upd H4 D (.lst (acc ++ [y]))) else Nx H3) := by
  refine lc_tup (K := K) (a := L) (xs := lotV left) (fun k H' => Same H1 H' ∧ H' D = some (.lst (lotV (less (left.take k) c))))
    ⟨same_upd _ nD, upd_same⟩ (fun k H' _ h => Same.tup h.1 hL) (fun k x H' hx h => ?_) (fun H' h => ?_)
  · obtain ⟨e, hD⟩ := h
    obtain ⟨n, hn, rfl⟩ := lotV_inv hx
    refine ⟨hw _, htt n H' _ e ?_⟩
    refine ite2 (fun q => ?_) (fun q => ?_)
    · have ne : ¬ n = c := by simpa using q
      refine ⟨_, hi _, _, hD, ?_, Same.but_new e nD (but_upd _), ?_⟩
      · rw [lotV_len]
        refine small1000 (Nat.le_trans (less_le _ _) ?_)
        rw [List.length_take]
        omega
      · rw [upd_same, take_one hn, less_add, if_neg ne, lotV_add]
    · have ne : n = c := by simpa using q
      refine ⟨e, ?_⟩
      rw [take_one hn, less_add, if_pos ne, List.append_nil]
      exact hD
  · obtain ⟨e, hD⟩ := h
    rw [lotV_len, List.take_length] at hD
    exact hd H' e hD

theorem shaped_ints (ns : List Int) : SeqAt.shaped (.tuple (ns.map PyData.int)) = true := by
  have h1 : ∀ l : List Int, PyData.canLayAll0 (l.map PyData.int) = true := fun l => by
    induction l with
    | nil => rfl
    | cons a l ih =>
      show (PyData.canLay0 (.int a) && PyData.canLayAll0 (l.map PyData.int)) = true
      rw [ih]
      rfl
  unfold SeqAt.shaped
  rw [Bool.and_eq_true]
  refine ⟨?_, ?_⟩
  · show PyData.canLayAll0 (ns.map PyData.int) = true
    exact h1 ns
  · rw [PyData.depth, PySem.W.depth_ints]
    decide
theorem lotV_ints (l : List Nat) : lotV l = (l.map fun n : Nat => (n : Int)).map V.int := by
  unfold lotV
  rw [List.map_map]
  rfl
/-- a lot as data -/
def lotD (l : List Nat) : PyData := .tuple ((l.map fun n : Nat => (n : Int)).map PyData.int)
theorem dp_lot {K : PySem.W.Frag} {H : Hp} {a : Addr} {l : List Nat} (h : SqT K H a (lotV l)) : Dp K H (.ref a) (lotD l) := .tup h (by rw [lotV_ints]; exact dp_ints _)
theorem lot_empty (l : List Nat) : (!PyData.eqv (lotD l) (.tuple [])) = !decide (l = []) := by
  cases l with
  | nil => rfl
  | cons a l => rfl
theorem less_pw {left : List Nat} {c : Nat} (h : left.Pairwise (· < ·)) : (less left c).Pairwise (· < ·) := h.sublist List.filter_sublist
theorem pw_nodup {left : List Nat} (h : left.Pairwise (· < ·)) : left.Nodup := h.imp fun h => Nat.ne_of_lt h
theorem every_pw (ws : List Wall) : (every ws).Pairwise (· < ·) := List.pairwise_lt_range

/-- what the loop of both defs keeps -/
structure Grd (R : List Wall → List Nat → List Nat → Prop) (K : PySem.W.Frag) (H0 H : Hp) (ws : List Wall) (o L : Addr) (found left : List Nat) : Prop where
  same : Same H0 H
  new : H0 o = none
  at_ : H o = some (.lst (lotV found))
  left_ : SqT K H L (lotV left)
  pw : left.Pairwise (· < ·)
  lt : ∀ n ∈ left, n < ws.length
  grow : Growth ws left
  len : found.length + left.length ≤ 12
  go : ∀ f, R ws left f → R ws (every ws) (found ++ f)
theorem Grd.step {R : List Wall → List Nat → List Nat → Prop} {K : PySem.W.Frag} {H0 H H' : Hp} {ws : List Wall} {o L : Addr} {found left : List Nat} (g : Grd R K H0 H ws o L found left) (e : Same H H') : Grd R K H0 H' ws o L found left :=
  ⟨g.same.trans e, g.new, e _ _ g.at_, Same.tup e g.left_, g.pw, g.lt, g.grow, g.len, g.go⟩
theorem len_less {left : List Nat} {c : Nat} (h : c ∈ left) (nd : left.Nodup) : (less left c).length + 1 ≤ left.length := less_len h

section
variable {P : Program} {w : World} {K : PySem.W.Frag} {mg : Str → Option Value} {base : Heap}

theorem ok_first {f g1 g2 g3 g4 : Addr} {fd gd1 gd2 gd3 gd4 : FuncData} (F : Fun K "first_order" "first_order" sFirst f fd) (D1 : Df K mg "is_growth" sGrowth ["yard", "lot"] g1 gd1) (G1 : FnOk P w K mg base CX0 3 g1 gd1 ["yard", "lot"] (spGrowth K))
    (D2 : Df K mg "is_ready" sReady ["yard", "lot", "number"] g2 gd2) (G2 : FnOk P w K mg base CX0 3 g2 gd2 ["yard", "lot", "number"] (spReady K)) (D3 : Df K mg "every" sEvery ["yard"] g3 gd3) (D4 : Df K mg "need_yard" sNeedY ["value"] g4 gd4) (G4 : FnOk P w K mg base CX0 4 g4 gd4 ["value"] (spNeedY K)) (T : Txt mg) :
    FnOk P w K mg base CX0 5 f fd ["yard"] (spOrder First K) := by
  have G3 : FnOk P w K mg base CX0 1 g3 gd3 ["yard"] (spEvery K) := ok_every D3.F T
  refine F.ok scFirst (fun vs H Q E h => ?_) (fun cdv A outer s H vs Q E hr h => ?_)
  · obtain ⟨y, many, ws, rfl, _⟩ := h
    rfl
  · obtain ⟨y, many, ws, rfl, hYard, ok, qn, q⟩ := h
    have hr1 : Room 1 _ := hr.mono (by decide)
    have hr3 : Room 3 _ := hr.mono (by decide)
    have h12 := ok.twelve
    refine ⟨_, (pss_cons (ps_expr (pe_call G4 hr (by rfl) D4.m D4.F.kp D4.b .nil pass0 (pa_cons (pv 0) pa_nil)))
      (pss_cons (ps_if (pt_not (pt_val (pe_call G1 hr3 (by rfl) D1.m D1.F.kp D1.b .nil pass0 (pa_cons (pv 0) (pa_cons (pe_call G3 hr1 (by rfl) D3.m D3.F.kp D3.b .nil pass0 (pa_cons (pv 0) pa_nil)) pa_nil)))))
        (pss_one (ps_ret pe_non))
        pss_nil)
      (pss_cons (ps_par (i := 1) (j := 2) rfl scFirst.nd rfl rfl (by decide) rfl rfl (pa_cons (pe_lst pa_nil) (pa_cons (pe_call G3 hr1 (by rfl) D3.m D3.F.kp D3.b .nil pass0 (pa_cons (pv 0) pa_nil)) pa_nil)) (by rfl))
      (pss_cons (ps_while PassesOwn.never (pt_cmpR (op_neD hr.units) (pv 2) (pe_tup pa_nil) (nomark _))
        (pss_one (ps_for PassesOwn.never rfl (pi_tup (pv 2)) (pg_name (i := 3) scFirst.nd rfl (.inr rfl))
          (pss_cons (ps_set (i := 4) scFirst.nd rfl (.inl rfl) (pe_tupleOf (by rfl) T.tuple (pe_lc (own := [("one", 5)]) (g := gName 5) rfl scFirst.nd (pi_tup (pv 2)) (blkOk_by (by show blkC ["yard", "found", "left", "number", "rest", "one"] (defScope sFirst) _ _ = true; decide +kernel)) (fun _ _ _ _ _ => pg_name (i := 5) scFirst.nd rfl (Or.inl rfl)) (fun _ _ _ _ _ => (pts_one (pt_cmpR op_ne (pv 5) (pv 3) (nomark _)))) (fun _ _ _ _ _ => (pv 5)))))
          (pss_one (ps_if (PW.pt (pw_and (pt_val (pe_call G1 hr3 (by rfl) D1.m D1.F.kp D1.b .nil pass0 (pa_cons (pv 0) (pa_cons (pv 4) pa_nil)))) (pw_and1 (pt_val (pe_call G2 hr3 (by rfl) D2.m D2.F.kp D2.b .nil pass0 (pa_cons (pv 0) (pa_cons (pv 4) (pa_cons (pv 3) pa_nil))))))))
            (pss_cons (ps_expr (pe_bm PySem.F.plainAttrs_list PySem.F.slot_list_append PySem.F.type_list_append mt_append (pv 1) (pa_cons (pv 3) pa_nil)))
            (pss_cons (ps_set (i := 2) scFirst.nd rfl (.inl rfl) (pv 4))
            (pss_one ps_break)))
            pss_nil))))))
      (pss_one (ps_ret (pe_tupleOf (by rfl) T.tuple (pv 1)))))))), ?_⟩
    -- need_yard(yard); is_growth(yard, every(yard))
    refine ⟨_, rfl, y, many, ws, rfl, hYard, ok, fun H1 e1 => ?_⟩
    refine ⟨_, rfl, _, rfl, y, many, ws, rfl, YardAt.same e1 hYard, h12, fun H2 l e2 hL => ?_⟩
    refine ⟨y, l, many, ws, every ws, rfl, YardAt.same (e1.trans e2) hYard, ok, hL, fun n hn => every_mem.mp hn, by rw [every_len]; exact h12, fun H3 b e3 hb => ⟨b, rfl, ?_⟩⟩
    have e13 := e1.trans (e2.trans e3)
    cases b with
    | false =>
      refine iteT ?_
      exact qn H3 e13 fun z => absurd (hb.mpr z) (by decide)
    | true =>
      refine iteF ?_
      have hg := hb.mp rfl
      -- found, left = [], every(yard)
      refine ⟨Nat.zero_le _, fun o no => ?_⟩
      have s4 := same_upd (.lst []) no
      refine ⟨_, rfl, y, many, ws, rfl, YardAt.same (e13.trans s4) hYard, h12, fun H5 L e5 hL5 => ⟨_, _, rfl, ?_⟩⟩
      have g5 : Grd First K H H5 ws o L [] (every ws) := ⟨e13.trans (s4.trans e5), e13.free no, e5 _ _ upd_same, hL5, every_pw ws, fun n hn => every_mem.mp hn, hg, by rw [every_len]; simpa using h12, fun f h => h⟩
      clear hL e2 e3 hL5 e5 s4 no
      refine ⟨fun m σ H' => ∃ (L : Addr) (found left : List Nat) (v3 v4 v5 : Option V), σ = [some (.ref y), some (.ref o), some (.ref L), v3, v4, v5] ∧ Grd First K H H' ws o L found left ∧ m = left.length,
        ⟨_, L, [], every ws, none, none, none, rfl, g5, rfl⟩, fun m σ H6 hW6 => ?_⟩
      obtain ⟨L6, found, left, v3, v4, v5, rfl, g6, em⟩ := hW6
      -- left != ()
      refine ⟨_, rfl, Nat.zero_le _, fun p0 n0 => ?_⟩
      have s7 := same_upd (.tup []) n0
      have g7 := g6.step s7
      refine ⟨lotD left, .tuple [], dp_lot g7.left_, .tup (.inl (.inl upd_same)) .nil, shaped_ints _, shaped_ints [], _, rfl, ?_⟩
      rw [lot_empty]
      by_cases hne : left = []
      · rw [decide_eq_true hne]
        refine iteF ?_
        -- return tuple(found)
        refine ⟨_, rfl, .inl ⟨o, _, rfl, SqL.of g7.at_, fun p np => ?_⟩⟩
        refine q _ p found (g7.same.trans (same_upd _ np)) hg ?_ (.inl (.inl upd_same))
        have z := g7.go [] (by rw [hne]; exact .nil)
        rw [List.append_nil] at z
        exact z
      · rw [decide_eq_false hne]
        refine iteT ⟨fun σ' H' => ∃ m', m' < m ∧ ∃ (L : Addr) (found left : List Nat) (v3 v4 v5 : Option V), σ' = [some (.ref y), some (.ref o), some (.ref L), v3, v4, v5] ∧ Grd First K H H' ws o L found left ∧ m' = left.length, fun σ' H' h => h, ?_⟩
        have hl12 : left.length ≤ 12 := by have := g7.len; omega
        have nd := pw_nodup g7.pw
        -- for number in left
        refine ⟨_, rfl, L6, rfl, ⟨_, g7.left_⟩, for_tup (K := K) (a := L6) (xs := lotV left) (fun i σ H' => ∃ (v3 v4 v5 : Option V), σ = [some (.ref y), some (.ref o), some (.ref L6), v3, v4, v5] ∧ Grd First K H H' ws o L6 found left ∧ ∀ k ∈ left.take i, ¬ Can ws left k)
          ⟨v3, v4, v5, rfl, g7, fun k hk => by simp at hk⟩ (fun i σ H' _ h => by obtain ⟨_, _, _, _, g, _⟩ := h; exact g.left_) (fun i x σ H8 hx h => ?_) (fun σ H8 h => ?_)⟩
        · obtain ⟨v3, v4, v5, rfl, g8, hno⟩ := h
          obtain ⟨n, hn, rfl⟩ := lotV_inv hx
          have hnl : n ∈ left := List.mem_of_getElem? hn
          -- rest = tuple([..])
          refine ⟨_, rfl, L6, rfl, ⟨_, g8.left_⟩, fun D nD => lc_less (c := n) nD g8.left_ hl12 (fun a H' Q _ hq => ⟨_, rfl, _, rfl, rfl, _, rfl, by rw [dec_nat]; exact hq⟩) (fun _ => rfl) (fun _ => rfl) fun H9 e9 hD => ?_⟩
          refine .inl ⟨D, _, rfl, SqL.of hD, fun rp nr => ?_⟩
          have s10 := same_upd (.tup (lotV (less left n))) nr
          have g10 := g8.step (e9.trans s10)
          have hR : SqT K (upd H9 rp (.tup (lotV (less left n)))) rp (lotV (less left n)) := .inl (.inl upd_same)
          have hrl : ∀ k ∈ less left n, k < ws.length := fun k hk => g8.lt k (mem_less.mp hk).1
          generalize upd H9 rp (.tup (lotV (less left n))) = H10 at g10 hR s10
          -- is_growth(yard, rest)
          refine ⟨_, rfl, _, rfl, y, rp, many, ws, less left n, rfl, YardAt.same g10.same hYard, ok, hR, hrl, Nat.le_trans (less_le _ _) hl12, fun H11 b1 e11 hb1 => ⟨b1, rfl, ?_⟩⟩
          have notCan : (¬ Can ws left n) → ∀ k ∈ left.take (i + 1), ¬ Can ws left k := fun z k hk => by
            rw [take_one hn] at hk
            rcases List.mem_append.mp hk with hk | hk
            · exact hno k hk
            · rw [List.mem_singleton.mp hk]
              exact z
          have g11 := g10.step e11
          cases b1 with
          | false =>
            refine iteF ?_
            exact ⟨_, _, _, rfl, g11, notCan fun z => absurd (hb1.mpr z.1) (by decide)⟩
          | true =>
            refine iteT ?_
            refine ⟨_, rfl, _, rfl, _, rfl, y, rp, n, many, ws, less left n, rfl, YardAt.same g11.same hYard, ok, Same.tup e11 hR, hrl, g8.lt n hnl, fun H12 b2 e12 hb2 => ⟨b2, rfl, ?_⟩⟩
            have g12 := g11.step e12
            cases b2 with
            | false =>
              refine iteF ?_
              exact ⟨_, _, _, rfl, g12, notCan fun z => absurd (hb2.mpr z.2) (by decide)⟩
            | true =>
              refine iteT ?_
              have hcan : Can ws left n := ⟨hb1.mp rfl, hb2.mp rfl⟩
              -- found.append(number); left = rest; break
              refine ⟨_, rfl, .inl ⟨rfl, _, SqL.of g12.at_⟩, _, rfl, o, _, _, rfl, rfl, g12.at_, ?_, ?_⟩
              · rw [lotV_len]
                have := g12.len
                exact small1000 (by omega)
              · have hlen := len_less hnl nd
                have kk := but_upd (H := H12) (p := o) (.lst (lotV found ++ [.int (n : Int)]))
                refine ⟨_, rfl, (less left n).length, by omega, rp, found ++ [n], less left n, _, _, _, rfl, ⟨Same.but_new g12.same g12.new kk, g12.new, ?_, But.tup kk g12.at_ (Same.tup (e11.trans e12) hR), less_pw g8.pw, hrl, hcan.1, ?_, fun f hf => ?_⟩, rfl⟩
                · rw [upd_same, lotV_add]
                · rw [List.length_append, List.length_singleton]
                  have := g12.len
                  omega
                · rw [List.append_assoc]
                  refine g12.go _ (.cons hnl hcan (fun d hd hc => ?_) hf)
                  by_cases z : d ∈ left.take i
                  · exact absurd hc (hno d z)
                  · -- d stands at i or behind
                    have hd' : d ∈ left.drop i := by
                      rw [← List.take_append_drop i left] at hd
                      exact (List.mem_append.mp hd).resolve_left z
                    have e : left.drop i = n :: left.drop (i + 1) := by
                      obtain ⟨hi, e⟩ := List.getElem?_eq_some_iff.mp hn
                      rw [List.drop_eq_getElem_cons hi, e]
                    rw [e] at hd'
                    rcases List.mem_cons.mp hd' with q | q
                    · exact Nat.le_of_eq q.symm
                    · have pw : (left.drop i).Pairwise (· < ·) := g8.pw.sublist (List.drop_sublist i left)
                      rw [e] at pw
                      exact Nat.le_of_lt ((List.pairwise_cons.mp pw).1 d q)
        · obtain ⟨v3, v4, v5, rfl, g8, hno⟩ := h
          rw [lotV_len, List.take_length] at hno
          obtain ⟨c, h1, h2⟩ := exists_can g8.grow nd hne
          exact absurd h2 (hno c h1)
end
end K02

/-! K02E -/
/-! last_order. -/
namespace K02
open PySem PySem.Spec PyProof.Rows L2
section
variable {P : Program} {w : World} {K : PySem.W.Frag} {mg : Str → Option Value} {base : Heap}
theorem lotV_last (l : List Nat) (c : Nat) : atI (lotV (l ++ [c])) (-1) = some (.int (c : Int)) := by
  rw [← lotV_add]
  exact atI_last _ _
theorem last_greatest {l : List Nat} {c : Nat} (h : (l ++ [c]).Pairwise (· < ·)) : ∀ d ∈ l ++ [c], d ≤ c := fun d hd => by
  rw [List.pairwise_append] at h
  rcases List.mem_append.mp hd with hd | hd
  · exact Nat.le_of_lt (h.2.2 d hd c List.mem_cons_self)
  · rw [List.mem_singleton.mp hd]
    exact Nat.le_refl _

theorem ok_last {f g1 g2 g3 g4 : Addr} {fd gd1 gd2 gd3 gd4 : FuncData} (F : Fun K "last_order" "last_order" sLast f fd) (D1 : Df K mg "is_growth" sGrowth ["yard", "lot"] g1 gd1) (G1 : FnOk P w K mg base CX0 3 g1 gd1 ["yard", "lot"] (spGrowth K))
    (D2 : Df K mg "is_ready" sReady ["yard", "lot", "number"] g2 gd2) (G2 : FnOk P w K mg base CX0 3 g2 gd2 ["yard", "lot", "number"] (spReady K)) (D3 : Df K mg "every" sEvery ["yard"] g3 gd3) (D4 : Df K mg "need_yard" sNeedY ["value"] g4 gd4) (G4 : FnOk P w K mg base CX0 4 g4 gd4 ["value"] (spNeedY K)) (T : Txt mg) :
    FnOk P w K mg base CX0 5 f fd ["yard"] (spOrder Last K) := by
  have G3 : FnOk P w K mg base CX0 1 g3 gd3 ["yard"] (spEvery K) := ok_every D3.F T
  refine F.ok scLast (fun vs H Q E h => ?_) (fun cdv A outer s H vs Q E hr h => ?_)
  · obtain ⟨y, many, ws, rfl, _⟩ := h
    rfl
  · obtain ⟨y, many, ws, rfl, hYard, ok, qn, q⟩ := h
    have hr1 : Room 1 _ := hr.mono (by decide)
    have hr3 : Room 3 _ := hr.mono (by decide)
    have h12 := ok.twelve
    refine ⟨_, (pss_cons (ps_expr (pe_call G4 hr (by rfl) D4.m D4.F.kp D4.b .nil pass0 (pa_cons (pv 0) pa_nil)))
      (pss_cons (ps_if (pt_not (pt_val (pe_call G1 hr3 (by rfl) D1.m D1.F.kp D1.b .nil pass0 (pa_cons (pv 0) (pa_cons (pe_call G3 hr1 (by rfl) D3.m D3.F.kp D3.b .nil pass0 (pa_cons (pv 0) pa_nil)) pa_nil)))))
        (pss_one (ps_ret pe_non))
        pss_nil)
      (pss_cons (ps_par (i := 1) (j := 2) rfl scLast.nd rfl rfl (by decide) rfl rfl (pa_cons (pe_lst pa_nil) (pa_cons (pe_call G3 hr1 (by rfl) D3.m D3.F.kp D3.b .nil pass0 (pa_cons (pv 0) pa_nil)) pa_nil)) (by rfl))
      (pss_cons (ps_while PassesOwn.never (pt_cmpR (op_neD hr.units) (pv 2) (pe_tup pa_nil) (nomark _))
        (pss_cons (ps_set (i := 3) scLast.nd rfl (.inr rfl) (pe_lst pa_nil))
        (pss_cons (ps_for PassesOwn.never rfl (pi_tup (pv 2)) (pg_name (i := 4) scLast.nd rfl (.inr rfl))
          (pss_cons (ps_set (i := 5) scLast.nd rfl (.inl rfl) (pe_tupleOf (by rfl) T.tuple (pe_lc (own := [("one", 6)]) (g := gName 6) rfl scLast.nd (pi_tup (pv 2)) (blkOk_by (by show blkC ["yard", "found", "left", "some", "number", "rest", "one"] (defScope sLast) _ _ = true; decide +kernel)) (fun _ _ _ _ _ => pg_name (i := 6) scLast.nd rfl (Or.inl rfl)) (fun _ _ _ _ _ => (pts_one (pt_cmpR op_ne (pv 6) (pv 4) (nomark _)))) (fun _ _ _ _ _ => (pv 6)))))
          (pss_one (ps_if (PW.pt (pw_and (pt_val (pe_call G1 hr3 (by rfl) D1.m D1.F.kp D1.b .nil pass0 (pa_cons (pv 0) (pa_cons (pv 5) pa_nil)))) (pw_and1 (pt_val (pe_call G2 hr3 (by rfl) D2.m D2.F.kp D2.b .nil pass0 (pa_cons (pv 0) (pa_cons (pv 5) (pa_cons (pv 4) pa_nil))))))))
            (pss_one (ps_expr (pe_bm PySem.F.plainAttrs_list PySem.F.slot_list_append PySem.F.type_list_append mt_append (pv 3) (pa_cons (pv 4) pa_nil))))
            pss_nil))))
        (pss_cons (ps_expr (pe_bm PySem.F.plainAttrs_list PySem.F.slot_list_append PySem.F.type_list_append mt_append (pv 1) (pa_cons (pe_ix ix_list (pv 3) (pe_un un_neg pe_int) (fun _ _ => rfl)) pa_nil)))
        (pss_one (ps_set (i := 2) scLast.nd rfl (.inl rfl) (pe_tupleOf (by rfl) T.tuple (pe_lc (own := [("one", 6)]) (g := gName 6) rfl scLast.nd (pi_tup (pv 2)) (blkOk_by (by show blkC ["yard", "found", "left", "some", "number", "rest", "one"] (defScope sLast) _ _ = true; decide +kernel)) (fun _ _ _ _ _ => pg_name (i := 6) scLast.nd rfl (Or.inl rfl)) (fun _ _ _ _ _ => (pts_one (pt_cmpR op_ne (pv 6) (pe_ix (ix_listK (K := K) rfl) (pv 3) (pe_un un_neg pe_int) (fun _ _ => rfl)) (nomark _)))) (fun _ _ _ _ _ => (pv 6))))))))))
      (pss_one (ps_ret (pe_tupleOf (by rfl) T.tuple (pv 1)))))))), ?_⟩
    -- need_yard(yard); is_growth(yard, every(yard))
    refine ⟨_, rfl, y, many, ws, rfl, hYard, ok, fun H1 e1 => ?_⟩
    refine ⟨_, rfl, _, rfl, y, many, ws, rfl, YardAt.same e1 hYard, h12, fun H2 l e2 hL => ?_⟩
    refine ⟨y, l, many, ws, every ws, rfl, YardAt.same (e1.trans e2) hYard, ok, hL, fun n hn => every_mem.mp hn, by rw [every_len]; exact h12, fun H3 b e3 hb => ⟨b, rfl, ?_⟩⟩
    have e13 := e1.trans (e2.trans e3)
    cases b with
    | false =>
      refine iteT ?_
      exact qn H3 e13 fun z => absurd (hb.mpr z) (by decide)
    | true =>
      refine iteF ?_
      have hg := hb.mp rfl
      -- found, left = [], every(yard)
      refine ⟨Nat.zero_le _, fun o no => ?_⟩
      have s4 := same_upd (.lst []) no
      refine ⟨_, rfl, y, many, ws, rfl, YardAt.same (e13.trans s4) hYard, h12, fun H5 L e5 hL5 => ⟨_, _, rfl, ?_⟩⟩
      have g5 : Grd Last K H H5 ws o L [] (every ws) := ⟨e13.trans (s4.trans e5), e13.free no, e5 _ _ upd_same, hL5, every_pw ws, fun n hn => every_mem.mp hn, hg, by rw [every_len]; simpa using h12, fun f h => h⟩
      clear hL e2 e3 hL5 e5 s4 no
      refine ⟨fun m σ H' => ∃ (L : Addr) (found left : List Nat) (v3 v4 v5 v6 : Option V), σ = [some (.ref y), some (.ref o), some (.ref L), v3, v4, v5, v6] ∧ Grd Last K H H' ws o L found left ∧ m = left.length,
        ⟨_, L, [], every ws, none, none, none, none, rfl, g5, rfl⟩, fun m σ H6 hW6 => ?_⟩
      obtain ⟨L6, found, left, v3, v4, v5, v6, rfl, g6, em⟩ := hW6
      -- left != ()
      refine ⟨_, rfl, Nat.zero_le _, fun p0 n0 => ?_⟩
      have s7 := same_upd (.tup []) n0
      have g7 := g6.step s7
      refine ⟨lotD left, .tuple [], dp_lot g7.left_, .tup (.inl (.inl upd_same)) .nil, shaped_ints _, shaped_ints [], _, rfl, ?_⟩
      rw [lot_empty]
      generalize upd H6 p0 (.tup []) = H7 at g7
      by_cases hne : left = []
      · rw [decide_eq_true hne]
        refine iteF ?_
        -- return tuple(found)
        refine ⟨_, rfl, .inl ⟨o, _, rfl, SqL.of g7.at_, fun p np => ?_⟩⟩
        refine q _ p found (g7.same.trans (same_upd _ np)) hg ?_ (.inl (.inl upd_same))
        have z := g7.go [] (by rw [hne]; exact .nil)
        rw [List.append_nil] at z
        exact z
      · rw [decide_eq_false hne]
        refine iteT ⟨fun σ' H' => ∃ m', m' < m ∧ ∃ (L : Addr) (found left : List Nat) (v3 v4 v5 v6 : Option V), σ' = [some (.ref y), some (.ref o), some (.ref L), v3, v4, v5, v6] ∧ Grd Last K H H' ws o L found left ∧ m' = left.length, fun σ' H' h => h, ?_⟩
        have hl12 : left.length ≤ 12 := by have := g7.len; omega
        have nd := pw_nodup g7.pw
        -- some = []
        refine ⟨Nat.zero_le _, fun so nso => ?_⟩
        have g8 := g7.step (same_upd (.lst []) nso)
        -- for number in left
        refine ⟨_, rfl, L6, rfl, ⟨_, g8.left_⟩, for_tup (K := K) (a := L6) (xs := lotV left) (fun i σ H' => ∃ (v4 v5 v6 : Option V) (sm : List Nat), σ = [some (.ref y), some (.ref o), some (.ref L6), some (.ref so), v4, v5, v6] ∧ Same H7 H' ∧ H' so = some (.lst (lotV sm)) ∧ sm.Sublist (left.take i) ∧ ∀ k ∈ left.take i, Can ws left k ↔ k ∈ sm)
          ⟨v4, v5, v6, [], rfl, same_upd _ nso, upd_same, List.Sublist.refl _, fun k hk => by simp at hk⟩ (fun i σ H' _ h => by obtain ⟨_, _, _, _, _, e, _⟩ := h; exact Same.tup e g7.left_) (fun i x σ H9 hx h => ?_) (fun σ H9 h => ?_)⟩
        · obtain ⟨v4, v5, v6, sm, rfl, e9, hso, hsub, hiff⟩ := h
          obtain ⟨n, hn, rfl⟩ := lotV_inv hx
          have hnl : n ∈ left := List.mem_of_getElem? hn
          have g9 := g7.step e9
          have hi12 : i < 12 := Nat.lt_of_lt_of_le (List.getElem?_eq_some_iff.mp hn).1 hl12
          have hns : n ∉ left.take i := fun z => by
            have q1 := take_one hn
            have q2 : (left.take (i + 1)).Nodup := nd.sublist (List.take_sublist _ _)
            rw [q1, List.nodup_append] at q2
            exact q2.2.2 n z n List.mem_cons_self rfl
          -- rest = tuple([..])
          refine ⟨_, rfl, L6, rfl, ⟨_, g9.left_⟩, fun D nD => lc_less (c := n) nD g9.left_ hl12 (fun a H' Q _ hq => ⟨_, rfl, _, rfl, rfl, _, rfl, by rw [dec_nat]; exact hq⟩) (fun _ => rfl) (fun _ => rfl) fun H10 e10 hD => ?_⟩
          refine .inl ⟨D, _, rfl, SqL.of hD, fun rp nr => ?_⟩
          have s11 := e10.trans (same_upd (.tup (lotV (less left n))) nr)
          have g11 := g9.step s11
          have hR : SqT K (upd H10 rp (.tup (lotV (less left n)))) rp (lotV (less left n)) := .inl (.inl upd_same)
          have hrl : ∀ k ∈ less left n, k < ws.length := fun k hk => g9.lt k (mem_less.mp hk).1
          generalize upd H10 rp (.tup (lotV (less left n))) = H11 at g11 hR s11
          -- is_growth(yard, rest)
          refine ⟨_, rfl, _, rfl, y, rp, many, ws, less left n, rfl, YardAt.same g11.same hYard, ok, hR, hrl, Nat.le_trans (less_le _ _) hl12, fun H12 b1 e12 hb1 => ⟨b1, rfl, ?_⟩⟩
          have notCan : (¬ Can ws left n) → sm.Sublist (left.take (i + 1)) ∧ ∀ k ∈ left.take (i + 1), Can ws left k ↔ k ∈ sm := fun z => by
            rw [take_one hn]
            refine ⟨hsub.trans (List.sublist_append_left _ _), fun k hk => ?_⟩
            rcases List.mem_append.mp hk with hk | hk
            · exact hiff k hk
            · rw [List.mem_singleton.mp hk]
              exact ⟨fun c => absurd c z, fun c => absurd (hsub.subset c) hns⟩
          have g12 := g11.step e12
          cases b1 with
          | false =>
            refine iteF ?_
            have z := notCan fun z => absurd (hb1.mpr z.1) (by decide)
            exact ⟨_, _, _, sm, rfl, e9.trans (s11.trans e12), e12 _ _ (s11 _ _ hso), z.1, z.2⟩
          | true =>
            refine iteT ?_
            refine ⟨_, rfl, _, rfl, _, rfl, y, rp, n, many, ws, less left n, rfl, YardAt.same g12.same hYard, ok, Same.tup e12 hR, hrl, g9.lt n hnl, fun H13 b2 e13 hb2 => ⟨b2, rfl, ?_⟩⟩
            have e93 := e9.trans (s11.trans (e12.trans e13))
            have hso3 := e13 _ _ (e12 _ _ (s11 _ _ hso))
            cases b2 with
            | false =>
              refine iteF ?_
              have z := notCan fun z => absurd (hb2.mpr z.2) (by decide)
              exact ⟨_, _, _, sm, rfl, e93, hso3, z.1, z.2⟩
            | true =>
              refine iteT ?_
              have hcan : Can ws left n := ⟨hb1.mp rfl, hb2.mp rfl⟩
              -- some.append(number)
              refine ⟨_, rfl, .inl ⟨rfl, _, SqL.of hso3⟩, _, rfl, so, _, _, rfl, rfl, hso3, ?_, ?_⟩
              · rw [lotV_len]
                have z := hsub.length_le
                rw [List.length_take] at z
                exact small1000 (by omega)
              · refine ⟨_, _, _, sm ++ [n], rfl, Same.but_new e93 nso (but_upd _), ?_, ?_, fun k hk => ?_⟩
                · rw [upd_same, lotV_add]
                · rw [take_one hn]
                  exact hsub.append (List.Sublist.refl _)
                · rw [take_one hn] at hk
                  rw [List.mem_append, List.mem_singleton]
                  rcases List.mem_append.mp hk with hk | hk
                  · rw [hiff k hk]
                    exact ⟨.inl, fun z => z.resolve_right fun e => hns (e ▸ hk)⟩
                  · have e := List.mem_singleton.mp hk
                    rw [e]
                    exact ⟨fun _ => .inr rfl, fun _ => hcan⟩
        · obtain ⟨v4, v5, v6, sm, rfl, e9, hso, hsub, hiff⟩ := h
          rw [lotV_len, List.take_length] at hsub hiff
          have g9 := g7.step e9
          obtain ⟨sm', c, rfl⟩ : ∃ sm' c, sm = sm' ++ [c] := by
            obtain ⟨k, h1, h2⟩ := exists_can g9.grow nd hne
            have h3 := (hiff k h1).mp h2
            have h4 : sm ≠ [] := fun z => by
              rw [z] at h3
              exact absurd h3 List.not_mem_nil
            exact ⟨sm.dropLast, sm.getLast h4, (List.dropLast_concat_getLast h4).symm⟩
          have hcl : c ∈ left := hsub.subset (List.mem_append_right _ List.mem_cons_self)
          have hcan : Can ws left c := (hiff c hcl).mpr (List.mem_append_right _ List.mem_cons_self)
          have hmax : ∀ d ∈ left, Can ws left d → d ≤ c := fun d hd hc => last_greatest (g9.pw.sublist hsub) d ((hiff d hd).mp hc)
          -- found.append(some[-1])
          refine ⟨_, rfl, .inl ⟨rfl, _, SqL.of g9.at_⟩, _, rfl, 1, rfl, so, _, -1, _, rfl, rfl, SqL.of hso, lotV_last _ _, o, _, _, rfl, rfl, g9.at_, ?_, ?_⟩
          · rw [lotV_len]
            have := g9.len
            exact small1000 (by omega)
          · have kk := but_upd (H := H9) (p := o) (.lst (lotV found ++ [.int (c : Int)]))
            have noso : so ≠ o := fun z => by
              have q1 := g7.at_
              rw [← z, nso] at q1
              cases q1
            have hso10 : (upd H9 o (.lst (lotV found ++ [.int (c : Int)]))) so = some (.lst (lotV (sm' ++ [c]))) := kk _ _ noso hso
            have hL10 : SqT K (upd H9 o (.lst (lotV found ++ [.int (c : Int)]))) L6 (lotV left) := But.tup kk g9.at_ g9.left_
            have hat10 : (upd H9 o (.lst (lotV found ++ [.int (c : Int)]))) o = some (.lst (lotV (found ++ [c]))) := by
              rw [upd_same, lotV_add]
            have e10 : Same H (upd H9 o (.lst (lotV found ++ [.int (c : Int)]))) := Same.but_new g9.same g9.new kk
            generalize upd H9 o (.lst (lotV found ++ [.int (c : Int)])) = H10 at hso10 hL10 hat10 e10
            -- left = tuple([..])
            refine ⟨_, rfl, L6, rfl, ⟨_, hL10⟩, fun D nD => lc_less (c := c) nD hL10 hl12 (fun a H' Q e hq => ⟨_, rfl, _, rfl, 1, rfl, so, _, -1, _, rfl, rfl, Same.seq e (SqL.of hso10), lotV_last _ _, rfl, _, rfl, by rw [dec_nat]; exact hq⟩) (fun _ => rfl) (fun _ => rfl) fun H11 e11 hD => ?_⟩
            refine .inl ⟨D, _, rfl, SqL.of hD, fun rp nr => ?_⟩
            have s12 := e11.trans (same_upd (.tup (lotV (less left c))) nr)
            have hlen := len_less hcl nd
            refine ⟨(less left c).length, by omega, rp, found ++ [c], less left c, _, _, _, _, rfl, ⟨e10.trans s12, g9.new, s12 _ _ hat10, .inl (.inl upd_same), less_pw g9.pw, fun k hk => g9.lt k (mem_less.mp hk).1, hcan.1, ?_, fun f hf => ?_⟩, rfl⟩
            · rw [List.length_append, List.length_singleton]
              have := g9.len
              omega
            · rw [List.append_assoc]
              exact g9.go _ (.cons hcl hcan hmax hf)
end
end K02

/-! K02F -/
/-! need_order, last_wrong, is_order, _law_grows. -/
namespace K02
open PySem PySem.Spec PyProof.Rows L2
section
variable {X : Cx} {K : PySem.W.Frag}
theorem isiK (h : X.K = K) : CallR X (.builtin "isinstance") (rIsi K) := by
  subst h
  exact call_isi
theorem eqDK (hu : X.A.units + 64 < cLine) (h : X.K = K) : OpR X (compareOp .Eq) (rEqD K) := by
  subst h
  exact op_eqD hu
theorem neDK (hu : X.A.units + 64 < cLine) (h : X.K = K) : OpR X (compareOp .NotEq) (rNeD K) := by
  subst h
  exact op_neD hu
end
theorem canLay_ints : ∀ ns : List Int, PyData.canLayAll0 (ns.map PyData.int) = true
  | [] => rfl
  | a :: l => by
    show (PyData.canLay0 (.int a) && PyData.canLayAll0 (l.map PyData.int)) = true
    rw [canLay_ints l]
    rfl
theorem shaped_intsL (ns : List Int) : SeqAt.shaped (.list (ns.map PyData.int)) = true := by
  unfold SeqAt.shaped
  rw [Bool.and_eq_true]
  refine ⟨canLay_ints ns, ?_⟩
  rw [PyData.depth, PySem.W.depth_ints]
  decide
theorem eqv_ints (ns : List Int) : PyData.eqv (.list (ns.map PyData.int)) (.list (ns.map PyData.int)) = true := PySem.SeqAt.eqv_refl _ (canLay_ints ns)
theorem eqv_none (ns : List Int) : PyData.eqv (.list (ns.map PyData.int)) (.list []) = decide (ns = []) := by
  cases ns <;> rfl
theorem every_ints_pw (ws : List Wall) : ((every ws).map fun n : Nat => (n : Int)).Pairwise (· ≤ ·) := by
  rw [List.pairwise_map]
  exact (every_pw ws).imp fun {a b} h => by omega
theorem cut_lot {t : List Nat} {p : Nat} (h : p + 1 ≤ t.length) : cutV (lotV t) (some ((p + 1 : Nat) : Int)) none = lotV (t.drop (p + 1)) := by
  unfold cutV
  rw [lotV_len, HT.sIx_nat, HT.sIx_none, Nat.min_eq_left h]
  unfold lotV
  rw [← List.map_drop, List.take_of_length_le]
  rw [List.length_map, List.length_drop]
  exact Nat.le_refl _
theorem cut_part {t : List Nat} {p : Nat} (h : p + 1 ≤ t.length) : ¬ (HT.sIx (lotV t).length 0 (some ((p + 1 : Nat) : Int)) = 0 ∧ HT.sIx (lotV t).length (lotV t).length none = (lotV t).length) := by
  rw [lotV_len, HT.sIx_nat, Nat.min_eq_left h]
  omega
/-- [side for side in sides if side in rooms] -/
theorem lc_inF {K : PySem.W.Frag} {σ : L2.St} {H1 : Hp} {t p D : Addr} {i j : Nat} {told rs : List Int} {Qd : Hp → Prop} (nD : H1 D = none) (ht : SqT K H1 t (told.map V.int)) (hp : SqL K H1 p (rs.map V.int)) (hk : told.length ≤ 2)
    (hi : ∀ a : V, ((wipe σ [i]).set i (some a))[i]? = some (some a)) (hj : ∀ a : V, ((wipe σ [i]).set i (some a))[j]? = some (some (.ref p))) (hw : ∀ a : V, wipe ((wipe σ [i]).set i (some a)) [i] = wipe σ [i])
    (hd : ∀ H', Same H1 H' → H' D = some (.lst ((told.filter fun r => decide (r ∈ rs)).map V.int)) → Qd H') :
    ∃ W : Nat → Nat → Hp → Prop, (∃ m, W 0 m (upd H1 D (.lst []))) ∧ ∀ k m H, W k m H → ((Itt K t).stop k H ∧ Qd H) ∨ ((Itt K t).go k H ∧ ∃ Nx : Hp → Prop, (∀ H', Nx H' → ∃ m', m' < m ∧ W (k + 1) m' H') ∧
      ∀ x H', (Itt K t).yld k H x H' → gName i x (wipe σ [i]) H' fun σ2 H2 => wipe σ2 [i] = wipe σ [i] ∧ tTest (tOp (rIn K false) (tVar i) (tVar j)) σ2 H2 fun b H3 =>
        if b = true then tVar i σ2 H3 fun y H4 => ∃ acc, H4 D = some (.lst acc) ∧ acc.length < sizeLine ∧ Nx (upd H4 D (.lst (acc ++ [y]))) else Nx H3) := by
  refine lc_tup (K := K) (a := t) (xs := told.map V.int) (fun k H' => Same H1 H' ∧ H' D = some (.lst (((told.take k).filter fun r => decide (r ∈ rs)).map V.int)))
    ⟨same_upd _ nD, upd_same⟩ (fun k H' _ h => Same.tup h.1 ht) (fun k x H' hx h => ?_) (fun H' h => ?_)
  · obtain ⟨e, hD⟩ := h
    obtain ⟨a, ha, rfl⟩ := map_int_at hx
    have hk2 : k < 2 := Nat.lt_of_lt_of_le (List.getElem?_eq_some_iff.mp ha).1 hk
    refine ⟨hw _, _, hi _, _, hj _, p, _, rfl, .inl (Same.seq e hp), rfl, flat_ints _, _, rfl, ?_⟩
    refine ite2 (fun c => ?_) (fun c => ?_)
    · have c1 : a ∈ rs := of_decide_eq_true ((inV_ints a rs).symm.trans c)
      refine ⟨_, hi _, _, hD, ?_, Same.but_new e nD (but_upd _), ?_⟩
      · rw [List.length_map]
        refine small1000 (Nat.le_trans (List.length_filter_le _ _) ?_)
        rw [List.length_take]
        omega
      · have e2 : [a].filter (fun r => decide (r ∈ rs)) = [a] := by simp [c1]
        rw [upd_same, take_oneI ha, List.filter_append, e2, map_add]
    · have c1 : a ∉ rs := fun z => c ((inV_ints a rs).trans (decide_eq_true z))
      refine ⟨e, ?_⟩
      have e2 : [a].filter (fun r => decide (r ∈ rs)) = [] := by simp [c1]
      rw [take_oneI ha, List.filter_append, e2, List.append_nil]
      exact hD
  · obtain ⟨e, hD⟩ := h
    rw [List.length_map, List.take_length] at hD
    exact hd H' e hD
/-- what [..] == [] of a wall tells -/
theorem ready_filter {ws : List Wall} {lot : List Nat} {n : Nat} {ww : Wall} {rs : List Int} (hw : ws[n]? = some ww) (hrs : ∀ r, r ∈ rs ↔ Reach ws lot r) : (ww.told.filter fun r => decide (r ∈ rs)) ≠ [] ↔ Ready ws lot n := by
  rw [← ready_any hw hrs, any_in]
  constructor
  · intro h
    obtain ⟨r, hr⟩ := List.exists_mem_of_ne_nil _ h
    obtain ⟨h1, h2⟩ := List.mem_filter.mp hr
    exact ⟨r, h1, of_decide_eq_true h2⟩
  · rintro ⟨r, h1, h2⟩ e
    have z : r ∈ ww.told.filter fun r => decide (r ∈ rs) := List.mem_filter.mpr ⟨h1, decide_eq_true h2⟩
    rw [e] at z
    exact absurd z List.not_mem_nil

section
variable {P : Program} {w : World} {K : PySem.W.Frag} {mg : Str → Option Value} {base : Heap}

theorem ok_needO {f g3 : Addr} {fd gd3 : FuncData} (F : Fun K "need_order" "need_order" sNeedO f fd) (D3 : Df K mg "every" sEvery ["yard"] g3 gd3) (T : Txt mg) : FnOk P w K mg base CX0 2 f fd ["yard", "value"] (spNeedO K) := by
  have G3 : FnOk P w K mg base CX0 1 g3 gd3 ["yard"] (spEvery K) := ok_every D3.F T
  refine F.ok scNeedO (fun vs H Q E h => ?_) (fun cdv A outer s H vs Q E hr h => ?_)
  · obtain ⟨y, o, many, ws, t, rfl, _⟩ := h
    rfl
  · obtain ⟨y, o, many, ws, t, rfl, hYard, ok, hO, hperm, q⟩ := h
    refine ⟨_, (pss_cons (ps_if (PW.pt (pw_or (pt_not (pt_val (pe_callB call_isi (by rfl) T.isi (by decide +kernel) (pa_cons (pv 1) (pa_cons (pe_bltn (v := .ty "tuple") (by rfl) T.tuple (by decide +kernel) rfl) pa_nil))))) (pw_or1 (pt_val (pe_callB (cr_any rfl) (by rfl) T.any (by decide +kernel) (pa_cons (pe_lc (own := [("one", 2)]) (g := gName 2) (tt := tYes) rfl scNeedO.nd (pi_tup (pv 1)) (blkOk_by (by show blkC ["yard", "value", "one"] (defScope sNeedO) _ _ = true; decide +kernel)) (fun _ _ _ _ _ => pg_name (i := 2) scNeedO.nd rfl (Or.inl rfl)) (fun _ _ _ _ _ => pts_nil) (fun _ _ _ _ _ => (pe_or (pe_not (pe_callB (isiK (K := K) rfl) (by rfl) T.isi (by decide +kernel) (pa_cons (pv 2) (pa_cons (pe_bltn (v := .ty "int") (by rfl) T.int (by decide +kernel) rfl) pa_nil)))) (pe_one (pe_callB (isiK (K := K) rfl) (by rfl) T.isi (by decide +kernel) (pa_cons (pv 2) (pa_cons (pe_bltn (v := .ty "bool") (by rfl) T.bool (by decide +kernel) rfl) pa_nil))))))) pa_nil))))))
        (pss_one ps_never)
        pss_nil)
      (pss_one (ps_if (pt_cmpR (op_neD hr.units) (pe_callB cr_sortTI (by rfl) T.sorted (by decide +kernel) (pa_cons (pv 1) pa_nil)) (pe_callTy call_list_of (by rfl) T.list (by decide +kernel) (pa_cons (pe_call G3 hr (by rfl) D3.m D3.F.kp D3.b .nil pass0 (pa_cons (pv 0) pa_nil)) pa_nil)) (nomark _))
        (pss_one ps_never)
        pss_nil))), ?_⟩
    have h12 : t.length ≤ 12 := by
      rw [hperm.length_eq, every_len]
      exact ok.twelve
    refine ⟨_, rfl, _, _, _, _, true, rfl, .ty "tuple", tyx_tup hO, kit_ty (by decide +kernel), true, rfl, iteF ?_⟩
    refine ⟨_, rfl, o, rfl, ⟨_, hO⟩, fun D nD => lc_tup (K := K) (a := o) (xs := lotV t) (fun i H' => Same H H' ∧ H' D = some (.lst ((List.replicate i false).map V.bl)))
      ⟨same_upd _ nD, upd_same⟩ (fun i H' _ h => Same.tup h.1 hO) (fun i x H2 hx h => ?_) (fun H2 h => ?_)⟩
    · obtain ⟨e2, hD2⟩ := h
      obtain ⟨n, hn, rfl⟩ := lotV_inv hx
      have hi12 : i < 12 := Nat.lt_of_lt_of_le (List.getElem?_eq_some_iff.mp hn).1 h12
      refine ⟨rfl, _, rfl, _, _, _, _, true, rfl, .ty "int", .base (.int _), kit_ty (by decide +kernel), true, rfl, false, rfl, iteF ?_⟩
      refine ⟨_, rfl, _, _, _, _, false, rfl, .ty "bool", .base (.int _), kit_ty (by decide +kernel), _, hD2, ?_, Same.but_new e2 nD (but_upd _), ?_⟩
      · rw [List.length_map, List.length_replicate]
        exact small1000 (by omega)
      · rw [upd_same, List.replicate_succ', List.map_append]
        rfl
    · obtain ⟨e2, hD2⟩ := h
      refine ⟨D, _, rfl, SqL.of hD2, false, ?_, iteF ?_⟩
      · congr 1
        rw [List.any_replicate]
        simp
      · -- sorted(value) != list(every(yard))
        have hO2 : SqT K H2 o ((t.map fun n : Nat => (n : Int)).map V.int) := by
          rw [← lotV_ints]
          exact Same.tup e2 hO
        refine ⟨_, rfl, o, _, rfl, hO2, fun ns' p hp hs np => ?_⟩
        have s3 := same_upd (.lst (ns'.map V.int)) np
        refine ⟨_, rfl, y, many, ws, rfl, YardAt.same (e2.trans s3) hYard, ok.twelve, fun H4 l e4 hL => ?_⟩
        refine ⟨l, _, rfl, .inr hL, fun l2 nl2 => ?_⟩
        have s5 := same_upd (.lst (lotV (every ws))) nl2
        have en : ns' = (every ws).map fun n : Nat => (n : Int) := (hp.trans (hperm.map _)).eq_of_pairwise (fun x y _ _ h1 h2 => Int.le_antisymm h1 h2) hs (every_ints_pw ws)
        refine ⟨.list (ns'.map PyData.int), .list (ns'.map PyData.int), .lst (Same.seq (e4.trans s5) (SqL.of upd_same)) (dp_ints ns'), ?_, shaped_intsL _, shaped_intsL _, false, ?_, iteF ?_⟩
        · refine .lst (SqL.of upd_same) ?_
          rw [lotV_ints, ← en]
          exact dp_ints ns'
        · rw [eqv_ints]
          rfl
        · exact q _ (e2.trans (s3.trans (e4.trans s5)))

theorem ok_wrong {f g1 : Addr} {fd gd1 : FuncData} (F : Fun K "last_wrong" "last_wrong" sWrong f fd) (D1 : Df K mg "is_ready" sReady ["yard", "lot", "number"] g1 gd1) (G1 : FnOk P w K mg base CX0 3 g1 gd1 ["yard", "lot", "number"] (spReady K)) (T : Txt mg) :
    FnOk P w K mg base CX0 4 f fd ["yard", "order"] (spWrong K) := by
  refine F.ok scWrong (fun vs H Q E h => ?_) (fun cdv A outer s H vs Q E hr h => ?_)
  · obtain ⟨y, o, many, ws, t, rfl, _⟩ := h
    rfl
  · obtain ⟨y, o, many, ws, t, rfl, hYard, ok, hO, ht, h12, q⟩ := h
    refine ⟨_, (pss_cons (ps_for PassesOwn.never rfl (pi_range3 (by rfl) T.range (pa_cons (pe_op op_sub (pe_callB call_len_seq (by rfl) T.len PySem.boot_len (pa_cons (pv 1) pa_nil)) pe_int) (pa_cons (pe_un un_neg pe_int) (pa_cons (pe_un un_neg pe_int) pa_nil)))) (pg_name (i := 2) scWrong.nd rfl (.inl rfl))
        (pss_one (ps_if (pt_not (pt_val (pe_call G1 hr (by rfl) D1.m D1.F.kp D1.b .nil pass0 (pa_cons (pv 0) (pa_cons (pe_slice sl_tup (pv 1) (po_some (pe_op op_add (pv 2) pe_int)) po_none) (pa_cons (pe_ix ix_tup (pv 1) (pv 2) (fun _ _ => rfl)) pa_nil))))))
          (pss_one (ps_ret (pv 2)))
          pss_nil)))
      (pss_one (ps_ret pe_non))), ?_⟩
    refine ⟨_, rfl, o, _, rfl, .inr hO, _, _, rfl, rfl, 1, rfl, 1, rfl, (t.length : Int) - 1, -1, -1, t.length, by rw [lotV_len], ?_, for_rangeC (lo := (t.length : Int) - 1) (c := -1) (n := t.length) (fun i σ H' => ∃ v2, σ = [some (.ref y), some (.ref o), v2] ∧ Same H H')
      ⟨none, rfl, Same.refl H⟩ (fun i σ H1 hi hp => ?_) (fun σ H1 hp => ?_)⟩
    · have z := RgC.neg (i := (t.length : Int) - 1) (j := -1) (by omega) (by omega) (by omega) (by omega)
      rw [show ((t.length : Int) - 1 - -1).toNat = t.length by omega] at z
      exact z
    · obtain ⟨v2, rfl, e1⟩ := hp
      obtain ⟨p, hpl⟩ : ∃ p, p + 1 + i = t.length := ⟨t.length - 1 - i, by omega⟩
      have hpt : p < t.length := by omega
      have hn : t[p]? = some t[p] := List.getElem?_eq_getElem hpt
      generalize t[p] = n at hn
      have e0 : (t.length : Int) - 1 + (i : Nat) * -1 = (p : Int) := by omega
      have hrdy : Ready ws (t.drop (p + 1)) n := ht.at hn
      have hO1 := Same.tup e1 hO
      refine ⟨_, rfl, _, rfl, _, rfl, _, _, rfl, rfl, ((p + 1 : Nat) : Int), congrArg V.int (by omega), o, _, rfl, hO1, cut_part hpt, fun sl nsl => ?_⟩
      rw [cut_lot hpt]
      have s2 := same_upd (.tup (lotV (t.drop (p + 1)))) nsl
      refine ⟨_, rfl, _, rfl, o, _, (p : Int), _, rfl, congrArg V.int e0, Same.tup s2 hO1, atI_nat (lotV_at hn), ?_⟩
      refine ⟨y, sl, n, many, ws, t.drop (p + 1), rfl, YardAt.same (e1.trans s2) hYard, ok, .inl (.inl upd_same), fun k hk => ht.lt k (List.mem_of_mem_drop hk), ht.lt n (List.mem_of_getElem? hn), fun H3 b e3 hb => ⟨b, rfl, ?_⟩⟩
      rw [hb.mpr hrdy]
      exact iteF ⟨_, rfl, e1.trans (s2.trans e3)⟩
    · obtain ⟨v2, rfl, e1⟩ := hp
      exact q H1 e1

theorem ok_isOrd {f g1 g2 g3 : Addr} {fd gd1 gd2 gd3 : FuncData} (F : Fun K "is_order" "is_order" sIsOrd f fd) (D1 : Df K mg "need_yard" sNeedY ["value"] g1 gd1) (G1 : FnOk P w K mg base CX0 4 g1 gd1 ["value"] (spNeedY K))
    (D2 : Df K mg "need_order" sNeedO ["yard", "value"] g2 gd2) (G2 : FnOk P w K mg base CX0 2 g2 gd2 ["yard", "value"] (spNeedO K)) (D3 : Df K mg "last_wrong" sWrong ["yard", "order"] g3 gd3) (G3 : FnOk P w K mg base CX0 4 g3 gd3 ["yard", "order"] (spWrong K)) :
    FnOk P w K mg base CX0 5 f fd ["yard", "order"] (spIsOrd K) := by
  refine F.ok scIsOrd (fun vs H Q E h => ?_) (fun cdv A outer s H vs Q E hr h => ?_)
  · obtain ⟨y, o, many, ws, t, rfl, _⟩ := h
    rfl
  · obtain ⟨y, o, many, ws, t, rfl, hYard, ok, hO, ht, hperm, q⟩ := h
    have hr2 : Room 2 _ := hr.mono (by decide)
    refine ⟨_, (pss_cons (ps_expr (pe_call G1 hr (by rfl) D1.m D1.F.kp D1.b .nil pass0 (pa_cons (pv 0) pa_nil)))
      (pss_cons (ps_expr (pe_call G2 hr2 (by rfl) D2.m D2.F.kp D2.b .nil pass0 (pa_cons (pv 0) (pa_cons (pv 1) pa_nil))))
      (pss_one (ps_ret (pe_cmpR op_isN (pe_call G3 hr (by rfl) D3.m D3.F.kp D3.b .nil pass0 (pa_cons (pv 0) (pa_cons (pv 1) pa_nil))) pe_non (nomark _)))))), ?_⟩
    refine ⟨_, rfl, y, many, ws, rfl, hYard, ok, fun H1 e1 => ?_⟩
    refine ⟨_, rfl, _, rfl, y, o, many, ws, t, rfl, YardAt.same e1 hYard, ok, Same.tup e1 hO, hperm, fun H2 e2 => ?_⟩
    have e12 := e1.trans e2
    refine ⟨_, rfl, _, rfl, y, o, many, ws, t, rfl, YardAt.same e12 hYard, ok, Same.tup e12 hO, ht, ?_, fun H3 e3 => ⟨rfl, q H3 (e12.trans e3)⟩⟩
    rw [hperm.length_eq, every_len]
    exact ok.twelve

theorem ok_grows {f g1 g2 : Addr} {fd gd1 gd2 : FuncData} (F : Fun K "_law_grows" "_law_grows" sGrows f fd) (D1 : Df K mg "_law_sides" sLSides ["_law_shut"] g1 gd1) (D2 : Df K mg "_law_come" sCome ["_law_yard_here", "_law_lot"] g2 gd2)
    (G2 : FnOk P w K mg base CX0 2 g2 gd2 ["_law_yard_here", "_law_lot"] (spReached K)) (T : Txt mg) : FnOk P w K mg base CX0 3 f fd ["_law_yard_here", "_law_order"] (spIsOrd K) := by
  have G1 : FnOk P w K mg base CX0 1 g1 gd1 ["_law_shut"] (spSides K) := ok_lsides D1.F
  refine F.ok scGrows (fun vs H Q E h => ?_) (fun cdv A outer s H vs Q E hr h => ?_)
  · obtain ⟨y, o, many, ws, t, rfl, _⟩ := h
    rfl
  · obtain ⟨y, o, many, ws, t, rfl, hYard, ok, hO, ht, hperm, q⟩ := h
    obtain ⟨wa, as, hY, hW, hlen, hAt⟩ := id hYard
    have hr1 : Room 1 _ := hr.mono (by decide)
    have h12 : t.length ≤ 12 := by
      rw [hperm.length_eq, every_len]
      exact ok.twelve
    refine ⟨_, (pss_cons (ps_for PassesOwn.never rfl (pi_range1 (by rfl) T.range (pa_cons (pe_callB call_len_seq (by rfl) T.len PySem.boot_len (pa_cons (pv 1) pa_nil)) pa_nil)) (pg_name (i := 2) scGrows.nd rfl (.inl rfl))
        (pss_cons (ps_set (i := 3) scGrows.nd rfl (.inr rfl) (pe_call G2 hr (by rfl) D2.m D2.F.kp D2.b .nil pass0 (pa_cons (pv 0) (pa_cons (pe_slice sl_tup (pv 1) (po_some (pe_op op_add (pv 2) pe_int)) po_none) pa_nil))))
        (pss_one (ps_if (pt_cmpR (op_eqD hr.units) (pe_lc (own := [("_law_side", 4)]) (g := gName 4) rfl scGrows.nd (pi_tup (pe_call G1 hr1 (by rfl) D1.m D1.F.kp D1.b .nil pass0 (pa_cons (pe_ix ix_tup (pe_ix ix_tup (pv 0) pe_int (fun _ _ => rfl)) (pe_ix ix_tup (pv 1) (pv 2) (fun _ _ => rfl)) (fun _ _ => rfl)) pa_nil))) (blkOk_by (by show blkC ["_law_yard_here", "_law_order", "_law_place", "_law_rooms", "_law_side"] (defScope sGrows) _ _ = true; decide +kernel)) (fun _ _ _ _ _ => pg_name (i := 4) scGrows.nd rfl (Or.inl rfl)) (fun _ _ _ _ _ => (pts_one (pt_cmpR (inK (K := K) rfl) (pv 4) (pv 3) (by rfl)))) (fun _ _ _ _ _ => (pv 4))) (pe_lst pa_nil) (nomark _))
          (pss_one (ps_ret pe_bl))
          pss_nil))))
      (pss_one (ps_ret pe_bl))), ?_⟩
    refine ⟨_, rfl, o, _, rfl, .inr hO, (t.length : Int), by rw [lotV_len], by omega, by omega, for_range (lo := 0) (n := t.length) (fun i σ H' => ∃ v2 v3, σ = [some (.ref y), some (.ref o), v2, v3, none] ∧ Same H H')
      ⟨none, none, rfl, Same.refl H⟩ (fun p σ H1 hpt hp => ?_) (fun σ H1 hp => ?_)⟩
    · obtain ⟨v2, v3, rfl, e1⟩ := hp
      have hn : t[p]? = some t[p] := List.getElem?_eq_getElem hpt
      generalize t[p] = n at hn
      have hrdy : Ready ws (t.drop (p + 1)) n := ht.at hn
      have hnw := ht.lt n (List.mem_of_getElem? hn)
      have hO1 := Same.tup e1 hO
      have hw : ws[n]? = some ws[n] := List.getElem?_eq_getElem hnw
      have wok := ok.walls _ (List.getElem_mem hnw)
      generalize ws[n] = ww at hw wok
      have hna : n < as.length := by omega
      have ha : as[n]? = some as[n] := List.getElem?_eq_getElem hna
      generalize as[n] = aw at ha
      have hav : (as.map V.ref)[n]? = some (.ref aw) := by
        rw [List.getElem?_map, ha]
        rfl
      -- rooms = come(yard, order[place + 1:])
      refine ⟨_, rfl, _, rfl, _, rfl, _, _, rfl, rfl, ((p + 1 : Nat) : Int), congrArg V.int (by omega), o, _, rfl, hO1, cut_part hpt, fun sl nsl => ?_⟩
      rw [cut_lot hpt]
      have s2 := same_upd (.tup (lotV (t.drop (p + 1)))) nsl
      refine ⟨y, sl, many, ws, t.drop (p + 1), rfl, YardAt.same (e1.trans s2) hYard, ok, .inl (.inl upd_same), fun k hk => ht.lt k (List.mem_of_mem_drop hk), fun H3 rp rs e3 hrp hrs => ?_⟩
      have e13 := e1.trans (s2.trans e3)
      -- sides(yard[1][order[place]])
      refine ⟨_, rfl, y, _, 1, _, rfl, rfl, Same.tup e13 hY, atI_nat (j := 1) rfl, _, rfl, _, rfl, o, _, (p : Int), _, rfl, congrArg V.int (by omega), Same.tup e13 hO, atI_nat (lotV_at hn), wa, _, (n : Int), _, rfl, rfl, Same.tup e13 hW, atI_nat hav, aw, ww, rfl, Same.tup e13 (hAt n aw ww ha hw), wok.s0, wok.s2, fun H4 sp e4 hsp => ?_⟩
      refine ⟨sp, rfl, ⟨_, hsp⟩, fun D nD => lc_inF nD hsp (Same.seq e4 hrp) (told_len ww) (fun _ => rfl) (fun _ => rfl) (fun _ => rfl) fun H5 e5 hD => ?_⟩
      refine ⟨Nat.zero_le _, fun l0 nl0 => ?_⟩
      have s6 := same_upd (.lst []) nl0
      refine ⟨.list _, .list [], .lst (Same.seq s6 (SqL.of hD)) (dp_ints _), .lst (SqL.of upd_same) .nil, shaped_intsL _, shaped_intsL [], false, ?_, iteF ?_⟩
      · rw [eqv_none, decide_eq_false ((ready_filter hw hrs).mpr hrdy)]
      · exact ⟨_, _, rfl, e13.trans (e4.trans (e5.trans s6))⟩
    · obtain ⟨v2, v3, rfl, e1⟩ := hp
      exact q H1 e1
end
end K02

/-! K02G -/
/-! _law_taken, _law_yard. -/
namespace K02
open PySem PySem.Spec PyProof.Rows L2

/-- the drawing row at row: the script, how many cells are taken, the mixed number, the rest of a great cell; Hs: the heap ahead of the row, all kept -/
def RowAt (K : PySem.W.Frag) (Hs H : Hp) (row : Addr) : Prop := Same Hs H ∧ Hs row = none ∧ ∃ (s : Addr) (ns : List Int) (i z g : Int), SqL K Hs s (ns.map V.int) ∧ H row = some (.lst [.ref s, .int i, .int z, .int g]) ∧ 0 ≤ i ∧ 0 ≤ z ∧ z < 2147483647
theorem RowAt.same {K : PySem.W.Frag} {Hs H H' : Hp} {row : Addr} (r : RowAt K Hs H row) (e : Same H H') : RowAt K Hs H' row := by
  obtain ⟨a, b, s, ns, i, z, g, c, d, x⟩ := r
  exact ⟨a.trans e, b, s, ns, i, z, g, c, e _ _ d, x⟩
/-- another new object is changed -/
theorem RowAt.other {K : PySem.W.Frag} {Hs H H' : Hp} {row o : Addr} (r : RowAt K Hs H row) (no : Hs o = none) (ne : row ≠ o) (e : But o H H') : RowAt K Hs H' row := by
  obtain ⟨a, b, s, ns, i, z, g, c, d, x⟩ := r
  exact ⟨Same.but_new a no e, b, s, ns, i, z, g, c, e _ _ ne d, x⟩
def spTake (K : PySem.W.Frag) : Sp := fun vs H Q _ => ∃ (row : Addr) (m : Int) (Hs : Hp), vs = [.ref row, .int m] ∧ RowAt K Hs H row ∧ 1 ≤ m ∧ m < 1000 ∧
  ∀ H' k, But row H H' → RowAt K Hs H' row → 0 ≤ k → k < m → Q (.int k) H'
def spDraw (K : PySem.W.Frag) : Sp := fun vs H Q _ => ∃ (row : Addr) (a b : Int) (Hs : Hp), vs = [.ref row, .int a, .int b, .int 1] ∧ RowAt K Hs H row ∧ 1 ≤ a ∧ a ≤ 9 ∧ 1 ≤ b ∧ b ≤ 12 ∧
  ∀ H' y many ws, But row H H' → RowAt K Hs H' row → YardAt K H' y many ws → YardOk many ws → (ws.length : Int) ≤ b → Q (.ref y) H'

section
variable {P : Program} {w : World} {K : PySem.W.Frag} {mg : Str → Option Value} {base : Heap}

theorem ok_taken {f : Addr} {fd : FuncData} (F : Fun K "_law_taken" "_law_taken" sTaken f fd) (T : Txt mg) : FnOk P w K mg base CX0 1 f fd ["_law_row", "_law_many"] (spTake K) := by
  refine F.ok scTaken (fun vs H Q E h => ?_) (fun cdv A outer s H vs Q E hr h => ?_)
  · obtain ⟨row, m, Hs, rfl, _⟩ := h
    rfl
  · obtain ⟨row, m, Hs, rfl, ⟨sm, nr, sc, ns, i, z, g, hs, hrow, hi, hz, hz2⟩, hm, hm2, q⟩ := h
    refine ⟨_, (pss_cons (ps_if (pt_cmpR op_gt (pe_ix ix_list (pv 0) pe_int (fun _ _ => rfl)) pe_int (nomark _))
        (pss_cons (ps_set (i := 2) scTaken.nd rfl (.inl rfl) (pe_op op_mod (pe_callTy call_int1 (by rfl) T.int (by decide +kernel) (pa_cons (pe_ix ix_list (pv 0) pe_int (fun _ _ => rfl)) pa_nil)) (pv 1)))
        (pss_cons (ps_asg (pe_op op_fdivN (pe_ix ix_list (pv 0) pe_int (fun _ _ => rfl)) (pv 1)) (pg_sub (pv 0) pe_int set_list))
        (pss_one (ps_ret (pv 2)))))
        pss_nil)
      (pss_cons (ps_asg (pe_op op_add (pe_ix ix_list (pv 0) pe_int (fun _ _ => rfl)) pe_int) (pg_sub (pv 0) pe_int set_list))
      (pss_cons (ps_if (pt_cmpR op_gt (pe_ix ix_list (pv 0) pe_int (fun _ _ => rfl)) (pe_callB call_len_seq (by rfl) T.len PySem.boot_len (pa_cons (pe_ix ix_list (pv 0) pe_int (fun _ _ => rfl)) pa_nil)) (nomark _))
        (pss_cons (ps_asg (pe_op op_mod (pe_callTy call_int1 (by rfl) T.int (by decide +kernel) (pa_cons (pe_op op_add (pe_op op_mul (pe_ix ix_list (pv 0) pe_int (fun _ _ => rfl)) pe_int) pe_int) pa_nil)) pe_int) (pg_sub (pv 0) pe_int set_list))
        (pss_one (ps_ret (pe_op op_mod (pe_callTy call_int1 (by rfl) T.int (by decide +kernel) (pa_cons (pe_op op_fdivN (pe_ix ix_list (pv 0) pe_int (fun _ _ => rfl)) pe_int) pa_nil)) (pv 1)))))
        pss_nil)
      (pss_cons (ps_set (i := 3) scTaken.nd rfl (.inl rfl) (pe_ix ix_list (pe_ix ix_list (pv 0) pe_int (fun _ _ => rfl)) (pe_op op_sub (pe_ix ix_list (pv 0) pe_int (fun _ _ => rfl)) pe_int) (fun _ _ => rfl)))
      (pss_cons (ps_asg (pe_op op_mod (pe_callTy call_int1 (by rfl) T.int (by decide +kernel) (pa_cons (pe_op op_add (pe_op op_add (pe_op op_mul (pe_ix ix_list (pv 0) pe_int (fun _ _ => rfl)) pe_int) (pv 3)) pe_int) pa_nil)) pe_int) (pg_sub (pv 0) pe_int set_list))
      (pss_cons (ps_if (pt_cmpR op_ge (pv 3) (pe_op op_pow pe_int pe_int) (nomark _))
        (pss_one (ps_asg (pe_op op_fdivN (pv 3) (pv 1)) (pg_sub (pv 0) pe_int set_list)))
        pss_nil)
      (pss_one (ps_ret (pe_op op_mod (pe_callTy call_int1 (by rfl) T.int (by decide +kernel) (pa_cons (pv 3) pa_nil)) (pv 1)))))))))), ?_⟩
    have hmod : ∀ x : Int, 0 ≤ x % m ∧ x % m < m := fun x => ⟨Int.emod_nonneg _ (by omega), Int.emod_lt_of_pos _ (by omega)⟩
    -- row[3] > 0
    refine ⟨_, rfl, row, _, 3, _, rfl, rfl, SqL.of hrow, atI_nat (j := 3) rfl, _, _, rfl, rfl, _, rfl, ?_⟩
    refine ite2 (fun c => ?_) (fun c => ?_)
    · refine ⟨_, rfl, row, _, 3, _, rfl, rfl, SqL.of hrow, atI_nat (j := 3) rfl, .inl ⟨_, rfl, ?_⟩⟩
      refine ⟨_, rfl, _, _, rfl, rfl, (by show (0 : Int) < m; omega), ?_⟩
      -- row[3] = row[3] // many
      refine ⟨_, rfl, row, _, 3, _, rfl, rfl, SqL.of hrow, atI_nat (j := 3) rfl, _, rfl, _, _, rfl, rfl, ⟨by show m ≠ 0; omega, by show m.natAbs < 1073741824; omega⟩, ?_⟩
      refine ⟨_, rfl, row, _, 3, 3, rfl, rfl, hrow, rfl, ?_⟩
      refine ⟨_, rfl, ?_⟩
      have kk := but_upd (H := H) (p := row) (.lst [.ref sc, .int i, .int z, .int (g.fdiv m)])
      exact q _ _ kk ⟨Same.but_new sm nr kk, nr, sc, ns, i, z, g.fdiv m, hs, upd_same, hi, hz, hz2⟩ (hmod g).1 (hmod g).2
    · -- row[1] = row[1] + 1
      refine ⟨_, rfl, row, _, 1, _, rfl, rfl, SqL.of hrow, atI_nat (j := 1) rfl, _, _, rfl, rfl, ?_⟩
      refine ⟨_, rfl, row, _, 1, 1, rfl, rfl, hrow, rfl, ?_⟩
      have k1 := but_upd (H := H) (p := row) (.lst [.ref sc, .int (i + 1), .int z, .int g])
      have r1 : (upd H row (.lst [.ref sc, .int (i + 1), .int z, .int g])) row = some (.lst [.ref sc, .int (i + 1), .int z, .int g]) := upd_same
      have hs1 : SqL K (upd H row (.lst [.ref sc, .int (i + 1), .int z, .int g])) sc (ns.map V.int) := Same.seq (Same.but_new sm nr k1) hs
      have sm1 := Same.but_new sm nr k1
      -- row[1] > len(row[0])
      refine ⟨_, rfl, row, _, 1, _, rfl, rfl, SqL.of r1, atI_nat (j := 1) rfl, _, rfl, row, _, 0, _, rfl, rfl, SqL.of r1, atI_nat (j := 0) rfl, sc, _, rfl, .inl hs1, _, _, rfl, rfl, _, rfl, ?_⟩
      refine ite2 (fun c1 => ?_) (fun c1 => ?_)
      · -- row[2] = int(row[2] * 48271 + 11) % 2147483647
        refine ⟨_, rfl, row, _, 2, _, rfl, rfl, SqL.of r1, atI_nat (j := 2) rfl, _, _, rfl, rfl, .inl ⟨by omega, by omega⟩, _, _, rfl, rfl, .inl ⟨_, rfl, ?_⟩⟩
        refine ⟨_, _, rfl, rfl, (by decide : (0 : Int) < 2147483647), ?_⟩
        refine ⟨_, rfl, row, _, 2, 2, rfl, rfl, r1, rfl, ?_⟩
        -- return int(row[2] // 7) % many
        refine ⟨_, rfl, row, _, 2, _, rfl, rfl, SqL.of upd_same, atI_nat (j := 2) rfl, _, _, rfl, rfl, ⟨by decide, by decide⟩, .inl ⟨_, rfl, ?_⟩⟩
        refine ⟨_, rfl, _, _, rfl, rfl, (by show (0 : Int) < m; omega), ?_⟩
        have k2 := but_upd (H := upd H row (.lst [.ref sc, .int (i + 1), .int z, .int g])) (p := row) (.lst [.ref sc, .int (i + 1), .int ((z * 48271 + 11) % 2147483647), .int g])
        exact q _ _ (k1.trans k2) ⟨Same.but_new sm1 nr k2, nr, sc, ns, i + 1, (z * 48271 + 11) % 2147483647, g, hs, upd_same, by omega, by omega, by omega⟩ (hmod _).1 (hmod _).2
      · -- cell = row[0][row[1] - 1]
        have hlen : i + 1 ≤ (ns.length : Int) := by
          have z1 := of_decide_eq_false (Bool.eq_false_iff.mpr c1)
          rw [List.length_map] at z1
          omega
        have hit : i.toNat < ns.length := by omega
        have hcell : (ns.map V.int)[i.toNat]? = some (.int ns[i.toNat]) := by
          rw [List.getElem?_map, List.getElem?_eq_getElem hit]
          rfl
        generalize ns[i.toNat] = cell at hcell
        refine ⟨_, rfl, row, _, 0, _, rfl, rfl, SqL.of r1, atI_nat (j := 0) rfl, _, rfl, row, _, 1, _, rfl, rfl, SqL.of r1, atI_nat (j := 1) rfl, _, _, rfl, rfl, sc, _, ((i.toNat : Nat) : Int), _, rfl, congrArg V.int (by omega), hs1, atI_nat hcell, ?_⟩
        -- row[2] = int(row[2] * 48271 + cell + 11) % 2147483647
        refine ⟨_, rfl, row, _, 2, _, rfl, rfl, SqL.of r1, atI_nat (j := 2) rfl, _, _, rfl, rfl, .inl ⟨by omega, by omega⟩, _, rfl, _, _, rfl, rfl, _, _, rfl, rfl, .inl ⟨_, rfl, ?_⟩⟩
        refine ⟨_, _, rfl, rfl, (by decide : (0 : Int) < 2147483647), ?_⟩
        refine ⟨_, rfl, row, _, 2, 2, rfl, rfl, r1, rfl, ?_⟩
        have k2 := but_upd (H := upd H row (.lst [.ref sc, .int (i + 1), .int z, .int g])) (p := row) (.lst [.ref sc, .int (i + 1), .int ((z * 48271 + cell + 11) % 2147483647), .int g])
        have r2 : (upd (upd H row (.lst [.ref sc, .int (i + 1), .int z, .int g])) row (.lst [.ref sc, .int (i + 1), .int ((z * 48271 + cell + 11) % 2147483647), .int g])) row = some (.lst [.ref sc, .int (i + 1), .int ((z * 48271 + cell + 11) % 2147483647), .int g]) := upd_same
        have sm2 := Same.but_new sm1 nr k2
        -- cell >= 10 ** 18
        refine ⟨_, rfl, _, _, rfl, rfl, ⟨by decide, by decide, by decide⟩, _, _, rfl, rfl, _, rfl, ?_⟩
        refine ite2 (fun c2 => ?_) (fun c2 => ?_)
        · -- row[3] = cell // many
          refine ⟨_, rfl, _, rfl, _, _, rfl, rfl, ⟨by show m ≠ 0; omega, by show m.natAbs < 1073741824; omega⟩, ?_⟩
          refine ⟨_, rfl, row, _, 3, 3, rfl, rfl, r2, rfl, ?_⟩
          refine ⟨_, rfl, .inl ⟨_, rfl, _, rfl, _, _, rfl, rfl, (by show (0 : Int) < m; omega), ?_⟩⟩
          have k3 := but_upd (H := upd (upd H row (.lst [.ref sc, .int (i + 1), .int z, .int g])) row (.lst [.ref sc, .int (i + 1), .int ((z * 48271 + cell + 11) % 2147483647), .int g])) (p := row) (.lst [.ref sc, .int (i + 1), .int ((z * 48271 + cell + 11) % 2147483647), .int (cell.fdiv m)])
          exact q _ _ (k1.trans (k2.trans k3)) ⟨Same.but_new sm2 nr k3, nr, sc, ns, i + 1, _, cell.fdiv m, hs, upd_same, by omega, by omega, by omega⟩ (hmod _).1 (hmod _).2
        · refine ⟨_, rfl, .inl ⟨_, rfl, _, rfl, _, _, rfl, rfl, (by show (0 : Int) < m; omega), ?_⟩⟩
          exact q _ _ (k1.trans k2) ⟨sm2, nr, sc, ns, i + 1, _, g, hs, r2, by omega, by omega, by omega⟩ (hmod _).1 (hmod _).2
end
end K02

/-! K02H -/
/-! _law_yard. -/
namespace K02
open PySem PySem.Spec PyProof.Rows L2

/-- the list of walls while it is drawn -/
structure Bld (K : PySem.W.Frag) (Hs H0 H : Hp) (row o : Addr) (many b : Int) (as : List Addr) (ws : List Wall) : Prop where
  row_ : RowAt K Hs H row
  but : But row H0 H
  new : H0 o = none
  newS : Hs o = none
  ne : row ≠ o
  at_ : H o = some (.lst (as.map V.ref))
  len : as.length = ws.length
  each : ∀ (i : Nat) (a : Addr) (w : Wall), as[i]? = some a → ws[i]? = some w → H a = some (.tup (wallV w))
  walls : ∀ w ∈ ws, WallOk many w
  fit : (ws.length : Int) ≤ b
section
variable {K : PySem.W.Frag} {Hs H0 H H' : Hp} {row o t : Addr} {many b : Int} {as : List Addr} {ws : List Wall} {w : Wall}
theorem RowAt.lst (r : RowAt K Hs H row) : ∃ l, H row = some (.lst l) := by
  obtain ⟨_, _, s, ns, i, z, g, _, d, _⟩ := r
  exact ⟨_, d⟩
theorem Bld.taken (g : Bld K Hs H0 H row o many b as ws) (e : But row H H') (r : RowAt K Hs H' row) : Bld K Hs H0 H' row o many b as ws := by
  obtain ⟨l, hl⟩ := g.row_.lst
  exact ⟨r, g.but.trans e, g.new, g.newS, g.ne, e _ _ g.ne.symm g.at_, g.len, fun i a w ha hw => e _ _ (ne_of (g.each i a w ha hw) hl (fun z => nomatch z)) (g.each i a w ha hw), g.walls, g.fit⟩
theorem Bld.step (g : Bld K Hs H0 H row o many b as ws) (e : Same H H') : Bld K Hs H0 H' row o many b as ws :=
  ⟨g.row_.same e, g.but.trans (Same.but e), g.new, g.newS, g.ne, e _ _ g.at_, g.len, fun i a w ha hw => e _ _ (g.each i a w ha hw), g.walls, g.fit⟩
theorem Bld.add (g : Bld K Hs H0 H row o many b as ws) (ht : H t = some (.tup (wallV w))) (hw : WallOk many w) (hf : (ws.length : Int) + 1 ≤ b) : Bld K Hs H0 (upd H o (.lst (as.map V.ref ++ [.ref t]))) row o many b (as ++ [t]) (ws ++ [w]) := by
  have kk := but_upd (H := H) (p := o) (.lst (as.map V.ref ++ [.ref t]))
  refine ⟨g.row_.other g.newS g.ne kk, fun c u n q => kk _ _ (ne_of_none q g.new) (g.but c u n q), g.new, g.newS, g.ne, ?_, ?_, fun i a w' ha hw' => ?_, fun w' hm => ?_, ?_⟩
  · rw [upd_same, List.map_append]
    rfl
  · rw [List.length_append, List.length_append, g.len]
    rfl
  · have hl := g.len
    have key : H a = some (.tup (wallV w')) := by
      by_cases hi : i < ws.length
      · rw [List.getElem?_append_left (by omega)] at ha
        rw [List.getElem?_append_left hi] at hw'
        exact g.each i a w' ha hw'
      · rw [List.getElem?_append_right (by omega)] at ha
        rw [List.getElem?_append_right (by omega)] at hw'
        have i0 : i - ws.length = 0 := by
          have z := (List.getElem?_eq_some_iff.mp hw').1
          rw [List.length_singleton] at z
          omega
        rw [hl, i0] at ha
        rw [i0] at hw'
        have e1 : t = a := Option.some.inj ha
        have e2 : w = w' := Option.some.inj hw'
        rw [← e1, ← e2]
        exact ht
    exact kk _ _ (ne_of key g.at_ (fun z => nomatch z)) key
  · rcases List.mem_append.mp hm with h | h
    · exact g.walls w' h
    · rw [List.mem_singleton.mp h]
      exact hw
  · rw [List.length_append, List.length_singleton]
    omega
end

section
variable {P : Program} {w : World} {K : PySem.W.Frag} {mg : Str → Option Value} {base : Heap}

theorem ok_yard {f g1 : Addr} {fd gd1 : FuncData} (F : Fun K "_law_yard" "_law_yard" sYard f fd) (D1 : Df K mg "_law_taken" sTaken ["_law_row", "_law_many"] g1 gd1) (T : Txt mg) : FnOk P w K mg base CX0 2 f fd ["_law_row", "_law_rooms", "_law_shuts", "_law_either"] (spDraw K) := by
  have G1 : FnOk P w K mg base CX0 1 g1 gd1 ["_law_row", "_law_many"] (spTake K) := ok_taken D1.F T
  refine F.ok scYard (fun vs H Q E h => ?_) (fun cdv A outer s H vs Q E hr h => ?_)
  · obtain ⟨row, a, b, Hs, rfl, _⟩ := h
    rfl
  · obtain ⟨row, a, b, Hs, rfl, hRow, ha1, ha9, hb1, hb12, q⟩ := h
    refine ⟨_, (pss_cons (ps_set (i := 4) scYard.nd rfl (.inl rfl) (pe_op op_add pe_int (pe_call G1 hr (by rfl) D1.m D1.F.kp D1.b .nil pass0 (pa_cons (pv 0) (pa_cons (pv 1) pa_nil)))))
      (pss_cons (ps_if (pt_cmpR op_eq (pv 4) pe_int (nomark _))
        (pss_one (ps_ret (pe_tup (pa_cons pe_int (pa_cons (pe_tup pa_nil) pa_nil)))))
        pss_nil)
      (pss_cons (ps_set (i := 5) scYard.nd rfl (.inl rfl) (pe_lst pa_nil))
      (pss_cons (ps_for PassesOwn.never rfl (pi_range2 (by rfl) T.range (pa_cons pe_int (pa_cons (pv 4) pa_nil))) (pg_name (i := 6) scYard.nd rfl (.inl rfl))
        (pss_one (ps_if (PW.pt (pw_and (pt_cmpR op_lt (pe_callB call_len_seq (by rfl) T.len PySem.boot_len (pa_cons (pv 5) pa_nil)) (pv 2) (nomark _)) (pw_and1 (pt_cmpR op_gt (pe_call G1 hr (by rfl) D1.m D1.F.kp D1.b .nil pass0 (pa_cons (pv 0) (pa_cons pe_int pa_nil))) pe_int (nomark _)))))
          (pss_cons (ps_set (i := 7) scYard.nd rfl (.inl rfl) (pe_call G1 hr (by rfl) D1.m D1.F.kp D1.b .nil pass0 (pa_cons (pv 0) (pa_cons (pv 6) pa_nil))))
          (pss_one (ps_expr (pe_bm PySem.F.plainAttrs_list PySem.F.slot_list_append PySem.F.type_list_append mt_append (pv 5) (pa_cons (pe_tup (pa_cons (pv 7) (pa_cons (pv 6) (pa_cons (pe_ifExp (pt_cmpR op_gt (pe_call G1 hr (by rfl) D1.m D1.F.kp D1.b .nil pass0 (pa_cons (pv 0) (pa_cons pe_int pa_nil))) pe_int (nomark _)) pe_int (pe_call G1 hr (by rfl) D1.m D1.F.kp D1.b .nil pass0 (pa_cons (pv 0) (pa_cons (pe_op op_add pe_int (pv 3)) pa_nil)))) pa_nil)))) pa_nil)))))
          pss_nil)))
      (pss_cons (ps_for PassesOwn.never rfl (pi_range1 (by rfl) T.range (pa_cons (pe_call G1 hr (by rfl) D1.m D1.F.kp D1.b .nil pass0 (pa_cons (pv 0) (pa_cons (pe_op op_add (pe_op op_sub (pv 2) (pe_callB call_len_seq (by rfl) T.len PySem.boot_len (pa_cons (pv 5) pa_nil))) pe_int) pa_nil))) pa_nil)) (pg_name (i := 8) scYard.nd rfl (.inl rfl))
        (pss_cons (ps_set (i := 7) scYard.nd rfl (.inl rfl) (pe_call G1 hr (by rfl) D1.m D1.F.kp D1.b .nil pass0 (pa_cons (pv 0) (pa_cons (pe_op op_sub (pv 4) pe_int) pa_nil))))
        (pss_cons (ps_set (i := 9) scYard.nd rfl (.inl rfl) (pe_op op_add (pe_op op_add (pv 7) pe_int) (pe_call G1 hr (by rfl) D1.m D1.F.kp D1.b .nil pass0 (pa_cons (pv 0) (pa_cons (pe_op op_sub (pe_op op_sub (pv 4) pe_int) (pv 7)) pa_nil)))))
        (pss_one (ps_expr (pe_bm PySem.F.plainAttrs_list PySem.F.slot_list_append PySem.F.type_list_append mt_append (pv 5) (pa_cons (pe_tup (pa_cons (pv 7) (pa_cons (pv 9) (pa_cons (pe_call G1 hr (by rfl) D1.m D1.F.kp D1.b .nil pass0 (pa_cons (pv 0) (pa_cons (pe_op op_add pe_int (pv 3)) pa_nil))) pa_nil)))) pa_nil)))))))
      (pss_one (ps_ret (pe_tup (pa_cons (pv 4) (pa_cons (pe_tupleOf (by rfl) T.tuple (pv 5)) pa_nil)))))))))), ?_⟩
    -- many = 1 + taken(row, rooms)
    refine ⟨_, rfl, _, rfl, row, a, Hs, rfl, hRow, ha1, by omega, fun H1 k b1 r1 k0 k1 => ⟨_, _, rfl, rfl, ?_⟩⟩
    -- if many == 1
    refine ⟨_, rfl, rfl, _, rfl, ?_⟩
    refine ite2 (fun c => ?_) (fun c => ?_)
    · refine ⟨Nat.zero_le _, fun p1 n1 => ⟨line2, fun p2 n2 => ?_⟩⟩
      have s1 := same_upd (.tup []) n1
      have s2 := same_upd (.tup [.int 1, .ref p1]) n2
      refine q _ p2 1 [] (b1.trans (Same.but (s1.trans s2))) (r1.same (s1.trans s2)) ⟨p1, [], .inl (.inl upd_same), Same.tup s2 (.inl (.inl upd_same)), rfl, fun i a w h => by simp at h⟩ ⟨by decide, by decide, by decide, fun w h => absurd h List.not_mem_nil⟩ ?_
      show ((0 : Nat) : Int) ≤ b
      omega
    · have hk1 : 1 ≤ k := by
        have z : ¬ 1 + k = 1 := fun z => c (decide_eq_true (congrArg V.int z))
        omega
      generalize hmany : 1 + k = many
      have hm2 : 2 ≤ many := by omega
      have hm9 : many ≤ 9 := by omega
      -- found = []
      refine ⟨Nat.zero_le _, fun o no => ?_⟩
      have s2 := same_upd (.lst []) no
      obtain ⟨rl, hrl⟩ := r1.lst
      have g2 : Bld K Hs H (upd H1 o (.lst [])) row o many b [] [] := by
        refine ⟨r1.same s2, b1.trans (Same.but s2), ?_, r1.1.free no, ne_of_none hrl no, upd_same, rfl, fun i a w h => by simp at h, fun w h => absurd h List.not_mem_nil, ?_⟩
        · cases e : H o with
          | none => rfl
          | some u =>
            by_cases z : o = row
            · rw [z, hrl] at no
              cases no
            · rw [b1 _ _ z e] at no
              cases no
        · show ((0 : Nat) : Int) ≤ b
          omega
      generalize upd H1 o (.lst []) = H2 at g2
      -- for room in range(1, many)
      refine ⟨_, rfl, 1, many, congrArg (fun x => [V.int 1, V.int x]) hmany, ⟨by decide, by decide, by omega, by omega⟩, for_range (lo := 1) (n := (many - 1).toNat) (fun t σ H' => ∃ (as : List Addr) (ws : List Wall) (v6 v7 v8 v9 : Option V), σ = [some (.ref row), some (.int a), some (.int b), some (.int 1), some (.int many), some (.ref o), v6, v7, v8, v9] ∧ Bld K Hs H H' row o many b as ws)
        ⟨[], [], none, none, none, none, by rw [← hmany]; rfl, g2⟩ (fun t σ H3 ht hp => ?_) (fun σ H3 hp => ?_)⟩
      · obtain ⟨as, ws, v6, v7, v8, v9, rfl, g3⟩ := hp
        have ht1 : 1 + (t : Int) < many := by omega
        -- len(found) < shuts and taken(row, 8) > 0
        refine ⟨_, rfl, o, _, rfl, .inl (SqL.of g3.at_), _, rfl, _, _, rfl, rfl, _, rfl, ?_⟩
        refine ite2 (fun c1 => ?_) (fun c1 => ?_)
        · have hfit : (ws.length : Int) + 1 ≤ b := by
            have z := of_decide_eq_true c1
            rw [List.length_map, g3.len] at z
            omega
          refine ⟨_, rfl, row, 8, Hs, rfl, g3.row_, by decide, by decide, fun H4 k4 b4 r4 _ _ => ⟨_, _, rfl, rfl, _, rfl, ?_⟩⟩
          have g4 := g3.taken b4 r4
          refine ite2 (fun c2 => ?_) (fun c2 => ?_)
          · -- low = taken(row, room)
            refine ⟨_, rfl, _, rfl, row, 1 + (t : Int), Hs, rfl, g4.row_, by omega, by omega, fun H5 low b5 r5 l0 l1 => ?_⟩
            have g5 := g4.taken b5 r5
            -- what the new tuple and its append leave
            have fin : ∀ {H6 : Hp} {sd : Int}, Bld K Hs H H6 row o many b as ws → 0 ≤ sd → sd ≤ 2 → ∀ tt, H6 tt = none → Bld K Hs H (upd (upd H6 tt (.tup [.int low, .int (1 + (t : Int)), .int sd])) o (.lst (as.map V.ref ++ [.ref tt]))) row o many b (as ++ [tt]) (ws ++ [⟨low, 1 + (t : Int), sd⟩]) := fun {H6 sd} g6 d0 d2 tt ntt =>
              (g6.step (same_upd _ ntt)).add (w := ⟨low, 1 + (t : Int), sd⟩) upd_same ⟨l0, l1, ht1, d0, d2⟩ hfit
            have small : as.length < sizeLine := by
              have z := g3.len
              exact small1000 (by omega)
            -- found.append((low, room, ..))
            refine ⟨_, rfl, .inl ⟨rfl, _, SqL.of g5.at_⟩, _, rfl, _, rfl, _, rfl, row, 4, Hs, rfl, g5.row_, by decide, by decide, fun H6 k6 b6 r6 _ _ => ⟨_, _, rfl, rfl, _, rfl, ?_⟩⟩
            have g6 := g5.taken b6 r6
            refine ite2 (fun c3 => ?_) (fun c3 => ?_)
            · refine ⟨line3, fun tt ntt => ?_⟩
              have g7 := g6.step (same_upd (.tup [.int low, .int (1 + (t : Int)), .int 0]) ntt)
              refine ⟨o, _, _, rfl, rfl, g7.at_, by rw [List.length_map]; exact small, ?_⟩
              exact ⟨_, _, _, _, _, _, rfl, fin g6 (by decide) (by decide) tt ntt⟩
            · refine ⟨_, rfl, _, rfl, _, _, rfl, rfl, row, 3, Hs, rfl, g6.row_, by decide, by decide, fun H7 sd b7 r7 d0 d1 => ⟨line3, fun tt ntt => ?_⟩⟩
              have g7 := g6.taken b7 r7
              have g8 := g7.step (same_upd (.tup [.int low, .int (1 + (t : Int)), .int sd]) ntt)
              refine ⟨o, _, _, rfl, rfl, g8.at_, by rw [List.length_map]; exact small, ?_⟩
              exact ⟨_, _, _, _, _, _, rfl, fin g7 d0 (by omega) tt ntt⟩
          · exact ⟨as, ws, _, _, _, _, rfl, g4⟩
        · exact ⟨as, ws, _, _, _, _, rfl, g3⟩
      · obtain ⟨as, ws, v6, v7, v8, v9, rfl, g3⟩ := hp
        have hfit := g3.fit
        -- for turn in range(taken(row, shuts - len(found) + 1))
        refine ⟨_, rfl, _, rfl, _, rfl, o, _, rfl, .inl (SqL.of g3.at_), _, _, rfl, rfl, _, _, rfl, rfl, row, b - ws.length + 1, Hs, ?_, g3.row_, by omega, by omega, fun H4 k4 b4 r4 k40 k41 => ?_⟩
        · rw [List.length_map, g3.len]
          rfl
        have g4 := g3.taken b4 r4
        refine ⟨k4, rfl, by omega, by omega, for_range (lo := 0) (n := k4.toNat) (fun t σ H' => ∃ (as' : List Addr) (ws' : List Wall) (v6 v7 v8 v9 : Option V), σ = [some (.ref row), some (.int a), some (.int b), some (.int 1), some (.int many), some (.ref o), v6, v7, v8, v9] ∧ Bld K Hs H H' row o many b as' ws' ∧ ws'.length ≤ ws.length + t)
          ⟨as, ws, _, _, _, _, rfl, g4, Nat.le_refl _⟩ (fun t σ H5 ht hp => ?_) (fun σ H5 hp => ?_)⟩
        · obtain ⟨as', ws', v6, v7, v8, v9, rfl, g5, hl⟩ := hp
          have hfit5 : (ws'.length : Int) + 1 ≤ b := by omega
          have small : as'.length < sizeLine := by
            have z := g5.len
            exact small1000 (by omega)
          -- low = taken(row, many - 1)
          refine ⟨_, rfl, _, rfl, _, _, rfl, rfl, row, many - 1, Hs, rfl, g5.row_, by omega, by omega, fun H6 low b6 r6 l0 l1 => ?_⟩
          have g6 := g5.taken b6 r6
          -- high = low + 1 + taken(row, many - 1 - low)
          refine ⟨_, rfl, _, _, rfl, rfl, _, rfl, _, rfl, _, _, rfl, rfl, _, rfl, _, _, rfl, rfl, row, many - 1 - low, Hs, rfl, g6.row_, by omega, by omega, fun H7 d b7 r7 d0 d1 => ⟨_, _, rfl, rfl, ?_⟩⟩
          have g7 := g6.taken b7 r7
          -- found.append((low, high, taken(row, 2 + either)))
          refine ⟨_, rfl, .inl ⟨rfl, _, SqL.of g7.at_⟩, _, rfl, _, rfl, _, rfl, _, rfl, _, _, rfl, rfl, row, 3, Hs, rfl, g7.row_, by decide, by decide, fun H8 sd b8 r8 s0 s1 => ⟨line3, fun tt ntt => ?_⟩⟩
          have g8 := g7.taken b8 r8
          have g9 := g8.step (same_upd (.tup [.int low, .int (low + 1 + d), .int sd]) ntt)
          refine ⟨o, _, _, rfl, rfl, g9.at_, by rw [List.length_map]; exact small, ?_⟩
          refine ⟨_, _, _, _, _, _, rfl, g9.add (w := ⟨low, low + 1 + d, sd⟩) upd_same ⟨l0, by show low < low + 1 + d; omega, by show low + 1 + d < many; omega, s0, by show sd ≤ 2; omega⟩ hfit5, ?_⟩
          rw [List.length_append, List.length_singleton]
          omega
        · obtain ⟨as', ws', v6, v7, v8, v9, rfl, g5, hl⟩ := hp
          have hfit5 := g5.fit
          -- return (many, tuple(found))
          refine ⟨_, rfl, _, rfl, .inl ⟨o, _, rfl, SqL.of g5.at_, fun p1 n1 => ⟨line2, fun p2 n2 => ?_⟩⟩⟩
          have s1 := same_upd (.tup (as'.map V.ref)) n1
          have s3 := same_upd (.tup [.int many, .ref p1]) n2
          have s13 := s1.trans s3
          refine q _ p2 many ws' (g5.but.trans (Same.but s13)) (g5.row_.same s13) ⟨p1, as', .inl (.inl upd_same), Same.tup s3 (.inl (.inl upd_same)), g5.len, fun i a w h1 h2 => Same.tup s13 (.inl (.inl (g5.each i a w h1 h2)))⟩ ⟨by omega, hm9, by omega, g5.walls⟩ hfit5
end
end K02

/-! K02I -/
/-! _law_words. -/
namespace K02
open PySem PySem.Spec PyProof.Rows L2

/-- whole numbers of a lot -/
def castL (l : List Nat) : List Int := l.map fun n : Nat => (n : Int)
theorem lex_of : ∀ s t : List Nat, ¬ castL t < castL s → LexLe s t
  | [], _, _ => .nil
  | a :: s, [], h => absurd (List.nil_lt_cons _ _) h
  | a :: s, b :: t, h => by
    have h' : ¬ ((b : Int) < (a : Int) ∨ (b : Int) = (a : Int) ∧ castL t < castL s) := fun z => h (List.cons_lt_cons_iff.mpr z)
    by_cases e : a < b
    · exact .lt e
    · have e2 : a = b := by
        have : ¬ (b : Int) < (a : Int) := fun z => h' (.inl z)
        omega
      subst e2
      exact .eq (lex_of s t fun z => h' (.inr ⟨rfl, z⟩))

/-- the orders of k walls -/
structure Lay (ws : List Wall) (k : Nat) (L : List (Addr × List Nat)) : Prop where
  mem : ∀ t, t ∈ L.map (·.2) ↔ Tail ws t ∧ t.length = k
  len : L.length ≤ 6 ^ k
/-- one more wall ahead of one of the orders -/
def More (ws : List Wall) (L : List (Addr × List Nat)) (u : List Nat) : Prop := ∃ t, t ∈ L.map (·.2) ∧ ∃ n, n ∉ t ∧ Ready ws t n ∧ u = n :: t
theorem lay_next {ws : List Wall} {k : Nat} {L L2 : List (Addr × List Nat)} (h : Lay ws k L) (h6 : ws.length ≤ 6) (hm : ∀ u, u ∈ L2.map (·.2) ↔ More ws L u) (hl : L2.length ≤ L.length * ws.length) : Lay ws (k + 1) L2 := by
  refine ⟨fun u => ?_, ?_⟩
  · rw [hm]
    constructor
    · rintro ⟨t, ht, n, h1, h2, rfl⟩
      obtain ⟨a, b⟩ := (h.mem t).mp ht
      exact ⟨.cons a h1 h2, by rw [List.length_cons, b]⟩
    · rintro ⟨ht, hk⟩
      cases ht with
      | nil => simp at hk
      | cons a b c => exact ⟨_, (h.mem _).mpr ⟨a, by rw [List.length_cons] at hk; omega⟩, _, b, c, rfl⟩
  · have h1 := Nat.mul_le_mul h.len h6
    rw [Nat.pow_succ]
    exact Nat.le_trans hl h1
theorem pow6 {k : Nat} (h : k ≤ 6) : 6 ^ k ≤ 46656 := by
  have := Nat.pow_le_pow_right (n := 6) (by decide) h
  exact this
theorem big_line {n : Nat} (h : n ≤ 1000000) : n < sizeLine := by
  rw [sizeLine_eq]
  omega
theorem but_seqI {K : PySem.W.Frag} {H H' : Hp} {la rp : Addr} {rs : List Int} {L : List (Addr × List Nat)} (e : But la H H') (hla : H la = some (.lst (L.map fun q => V.ref q.1))) (h0 : (0 : Int) ∈ rs) (h : SqL K H rp (rs.map V.int)) : SqL K H' rp (rs.map V.int) := by
  rcases h with (h | ⟨ob, h⟩) | h
  · refine .inl (.inl (e _ _ (fun z => ?_) h))
    rw [z, hla] at h
    cases rs with
    | nil => exact absurd h0 List.not_mem_nil
    | cons a rs =>
      cases L with
      | nil => cases h
      | cons b L => cases h
  · exact .inl (.inr ⟨ob, e _ _ (ne_of h hla (fun z => nomatch z)) h⟩)
  · exact .inr h
theorem lotV_cast (l : List Nat) : lotV l = (castL l).map V.int := lotV_ints l
theorem castL_back (l : List Nat) : (castL l).map Int.toNat = l := by
  unfold castL
  rw [List.map_map]
  have e : (Int.toNat ∘ fun n : Nat => (n : Int)) = id := funext fun n => Int.toNat_natCast n
  rw [e, List.map_id]
/-- the sorted orders, as lots again -/
theorem words_back {ws : List Wall} {L : List (Addr × List Nat)} {L' : List (Addr × List Int)} (hp : L'.Perm (L.map fun q => (q.1, castL q.2))) (hs : L'.Pairwise fun q r => ¬ r.2 < q.2) (lay : Lay ws ws.length L) :
    ∃ M : List (Addr × List Nat), L' = M.map (fun q => (q.1, castL q.2)) ∧ M.Perm L ∧ Words ws (M.map (·.2)) := by
  have e1 : ((L.map fun q : Addr × List Nat => (q.1, castL q.2)).map fun q : Addr × List Int => (q.1, q.2.map Int.toNat)) = L := by
    rw [List.map_map]
    have e : ((fun q : Addr × List Int => (q.1, q.2.map Int.toNat)) ∘ fun q : Addr × List Nat => (q.1, castL q.2)) = id := funext fun q => by
      show (q.1, (castL q.2).map Int.toNat) = q
      rw [castL_back]
    rw [e, List.map_id]
  have e2 : (L'.map fun q : Addr × List Int => (q.1, q.2.map Int.toNat)).map (fun q : Addr × List Nat => (q.1, castL q.2)) = L' := by
    rw [List.map_map]
    refine (List.map_congr_left (g := id) fun q hq => ?_).trans (List.map_id _)
    obtain ⟨r, _, rfl⟩ := List.mem_map.mp (hp.mem_iff.mp hq)
    show (r.1, castL ((castL r.2).map Int.toNat)) = (r.1, castL r.2)
    rw [castL_back]
  have hM : (L'.map fun q : Addr × List Int => (q.1, q.2.map Int.toNat)).Perm L := by
    have z := hp.map fun q : Addr × List Int => (q.1, q.2.map Int.toNat)
    rw [e1] at z
    exact z
  refine ⟨_, e2.symm, hM, ⟨fun t => ?_, ?_⟩⟩
  · rw [(hM.map (·.2)).mem_iff]
    exact lay.mem t
  · have hs2 := hs
    rw [← e2, List.pairwise_map] at hs2
    rw [List.pairwise_map]
    exact hs2.imp fun {q r} h => lex_of _ _ h
theorem lot_cons (n : Nat) (t : List Nat) : [V.int (n : Int)] ++ lotV t = lotV (n :: t) := rfl

section
variable {P : Program} {w : World} {K : PySem.W.Frag} {mg : Str → Option Value} {base : Heap}

theorem ok_words {f g1 g2 : Addr} {fd gd1 gd2 : FuncData} (F : Fun K "_law_words" "_law_words" sWords f fd) (D1 : Df K mg "_law_sides" sLSides ["_law_shut"] g1 gd1) (D2 : Df K mg "_law_come" sCome ["_law_yard_here", "_law_lot"] g2 gd2)
    (G2 : FnOk P w K mg base CX0 2 g2 gd2 ["_law_yard_here", "_law_lot"] (spReached K)) (T : Txt mg) : FnOk P w K mg base CX0 3 f fd ["_law_yard_here"] (spWords K) := by
  have G1 : FnOk P w K mg base CX0 1 g1 gd1 ["_law_shut"] (spSides K) := ok_lsides D1.F
  refine F.ok scWords (fun vs H Q E h => ?_) (fun cdv A outer s H vs Q E hr h => ?_)
  · obtain ⟨y, many, ws, rfl, _⟩ := h
    rfl
  · obtain ⟨y, many, ws, rfl, hYard, ok, h6, q⟩ := h
    obtain ⟨wa, as, hY, hW, hlen, hAt⟩ := id hYard
    have hr1 : Room 1 _ := hr.mono (by decide)
    refine ⟨_, (pss_cons (ps_set (i := 1) scWords.nd rfl (.inl rfl) (pe_lst (pa_cons (pe_tup pa_nil) pa_nil)))
      (pss_cons (ps_for PassesOwn.never rfl (pi_range1 (by rfl) T.range (pa_cons (pe_callB call_len_seq (by rfl) T.len PySem.boot_len (pa_cons (pe_ix ix_tup (pv 0) pe_int (fun _ _ => rfl)) pa_nil)) pa_nil)) (pg_name (i := 2) scWords.nd rfl (.inl rfl))
        (pss_cons (ps_set (i := 3) scWords.nd rfl (.inl rfl) (pe_lst pa_nil))
        (pss_cons (ps_for PassesOwn.never rfl (pi_list (pv 1)) (pg_name (i := 4) scWords.nd rfl (.inl rfl))
          (pss_cons (ps_set (i := 5) scWords.nd rfl (.inr rfl) (pe_call G2 hr (by rfl) D2.m D2.F.kp D2.b .nil pass0 (pa_cons (pv 0) (pa_cons (pv 4) pa_nil))))
          (pss_one (ps_for PassesOwn.never rfl (pi_range1 (by rfl) T.range (pa_cons (pe_callB call_len_seq (by rfl) T.len PySem.boot_len (pa_cons (pe_ix ix_tup (pv 0) pe_int (fun _ _ => rfl)) pa_nil)) pa_nil)) (pg_name (i := 6) scWords.nd rfl (.inl rfl))
            (pss_one (ps_if (PW.pt (pw_and (pt_cmpR op_notIn_seq (pv 6) (pv 4) (by rfl)) (pw_and1 (pt_cmpR (op_neD hr.units) (pe_lc (own := [("_law_side", 7)]) (g := gName 7) rfl scWords.nd (pi_tup (pe_call G1 hr1 (by rfl) D1.m D1.F.kp D1.b .nil pass0 (pa_cons (pe_ix ix_tup (pe_ix ix_tup (pv 0) pe_int (fun _ _ => rfl)) (pv 6) (fun _ _ => rfl)) pa_nil))) (blkOk_by (by show blkC ["_law_yard_here", "_law_found", "_law_turn", "_law_later", "_law_tail", "_law_rooms", "_law_number", "_law_side"] (defScope sWords) _ _ = true; decide +kernel)) (fun _ _ _ _ _ => pg_name (i := 7) scWords.nd rfl (Or.inl rfl)) (fun _ _ _ _ _ => (pts_one (pt_cmpR (inK (K := K) rfl) (pv 7) (pv 5) (by rfl)))) (fun _ _ _ _ _ => (pv 7))) (pe_lst pa_nil) (nomark _)))))
              (pss_one (ps_expr (pe_bm PySem.F.plainAttrs_list PySem.F.slot_list_append PySem.F.type_list_append mt_append (pv 3) (pa_cons (pe_op op_catT (pe_tup (pa_cons (pv 6) pa_nil)) (pv 4)) pa_nil))))
              pss_nil))))))
        (pss_one (ps_set (i := 1) scWords.nd rfl (.inl rfl) (pv 3))))))
      (pss_one (ps_ret (pe_callB (cr_sortT hr.units) (by rfl) T.sorted (by decide +kernel) (pa_cons (pv 1) pa_nil)))))), ?_⟩
    -- found = [()]
    refine ⟨Nat.zero_le _, fun p0 n0 => ⟨line1, fun fa0 nfa0 => ?_⟩⟩
    have s0 := same_upd (.tup []) n0
    have s1 := same_upd (.lst [.ref p0]) nfa0
    have l0 : Lay ws 0 [(p0, [])] := by
      refine ⟨fun t => ?_, Nat.le_refl _⟩
      show t ∈ [[]] ↔ _
      rw [List.mem_singleton, List.length_eq_zero_iff]
      exact ⟨fun e => ⟨e ▸ .nil, e⟩, fun e => e.2⟩
    -- for turn in range(len(yard[1]))
    refine ⟨_, rfl, y, _, 1, _, rfl, rfl, Same.tup (s0.trans s1) hY, atI_nat (j := 1) rfl, wa, _, rfl, .inr (Same.tup (s0.trans s1) hW), (ws.length : Int), by rw [List.length_map, hlen], by omega, by omega, for_range (lo := 0) (n := ws.length)
      (fun k σ H' => ∃ (fa : Addr) (L : List (Addr × List Nat)) (v2 v3 v4 v5 v6 : Option V), σ = [some (.ref y), some (.ref fa), v2, v3, v4, v5, v6, none] ∧ Same H H' ∧ H' fa = some (.lst (L.map fun q => V.ref q.1)) ∧ (∀ q ∈ L, SqT K H' q.1 (lotV q.2)) ∧ Lay ws k L)
      ⟨fa0, [(p0, [])], none, none, none, none, none, rfl, s0.trans s1, upd_same, fun q hq => ?_, l0⟩ (fun k σ H1 hk hp => ?_) (fun σ H1 hp => ?_)⟩
    · rw [List.mem_singleton.mp hq]
      exact Same.tup s1 (.inl (.inl upd_same))
    · obtain ⟨fa, L, v2, v3, v4, v5, v6, rfl, e1, hfa, htup, lay⟩ := hp
      have hL : L.length ≤ 46656 := Nat.le_trans lay.len (pow6 (by omega))
      have hprod : L.length * ws.length ≤ 46656 * 6 := Nat.mul_le_mul hL h6
      -- later = []
      refine ⟨Nat.zero_le _, fun la nla => ?_⟩
      have s2 := same_upd (.lst []) nla
      -- for tail in found
      refine ⟨_, rfl, fa, rfl, ⟨_, SqL.of (s2 _ _ hfa)⟩, for_list (K := K) (a := fa) (xs := L.map fun q => V.ref q.1)
        (fun i σ H' => ∃ (L2 : List (Addr × List Nat)) (v2 v4 v5 v6 : Option V), σ = [some (.ref y), some (.ref fa), v2, some (.ref la), v4, v5, v6, none] ∧ Same H1 H' ∧ H' la = some (.lst (L2.map fun q => V.ref q.1)) ∧ (∀ q ∈ L2, SqT K H' q.1 (lotV q.2)) ∧ (∀ u, u ∈ L2.map (·.2) ↔ More ws (L.take i) u) ∧ L2.length ≤ i * ws.length)
        ⟨[], _, _, _, _, rfl, s2, upd_same, fun q hq => absurd hq List.not_mem_nil, fun u => ⟨fun z => absurd z List.not_mem_nil, fun ⟨t, ht, _⟩ => by simp at ht⟩, Nat.zero_le _⟩
        (fun i σ H' _ hp => by
          obtain ⟨_, _, _, _, _, _, e, _⟩ := hp
          exact SqL.of (e _ _ hfa)) (fun i x σ H2 hx hp => ?_) (fun σ H2 hp => ?_)⟩
      · obtain ⟨L2, v2, v4, v5, v6, rfl, e2, hla, htup2, hmem, hlen2⟩ := hp
        rw [List.getElem?_map] at hx
        cases hLi : L[i]? with
        | none =>
          rw [hLi] at hx
          cases hx
        | some pt =>
          obtain ⟨ta, t⟩ := pt
          rw [hLi] at hx
          have ex : V.ref ta = x := Option.some.inj hx
          subst ex
          have hiL : i < L.length := (List.getElem?_eq_some_iff.mp hLi).1
          have hin : (ta, t) ∈ L := List.mem_of_getElem? hLi
          have htk : L.take (i + 1) = L.take i ++ [(ta, t)] := by
            rw [List.take_add_one, hLi]
            rfl
          have htail : Tail ws t ∧ t.length = k := (lay.mem t).mp (List.mem_map.mpr ⟨_, hin, rfl⟩)
          have hta : ∀ {H' : Hp}, Same H1 H' → SqT K H' ta (lotV t) := fun e => Same.tup e (htup _ hin)
          have hi6 : i * ws.length + ws.length ≤ 46656 * 6 := by
            have z : (i + 1) * ws.length ≤ L.length * ws.length := Nat.mul_le_mul_right _ hiL
            rw [Nat.succ_mul] at z
            omega
          -- rooms = come(yard, tail)
          refine ⟨_, rfl, _, rfl, y, ta, many, ws, t, rfl, YardAt.same (e1.trans e2) hYard, ok, hta e2, htail.1.lt, fun H3 rp rs e3 hrp hrs => ?_⟩
          have e23 := e2.trans e3
          -- for number in range(len(yard[1]))
          refine ⟨_, rfl, y, _, 1, _, rfl, rfl, Same.tup (e1.trans e23) hY, atI_nat (j := 1) rfl, wa, _, rfl, .inr (Same.tup (e1.trans e23) hW), (ws.length : Int), by rw [List.length_map, hlen], by omega, by omega, for_range (lo := 0) (n := ws.length)
            (fun j σ H' => ∃ (L3 : List (Addr × List Nat)) (v6 : Option V), σ = [some (.ref y), some (.ref fa), v2, some (.ref la), some (.ref ta), some (.ref rp), v6, none] ∧ Same H1 H' ∧ SqL K H' rp (rs.map V.int) ∧ H' la = some (.lst (L3.map fun q => V.ref q.1)) ∧ (∀ q ∈ L3, SqT K H' q.1 (lotV q.2)) ∧
              (∀ u, u ∈ L3.map (·.2) ↔ More ws (L.take i) u ∨ ∃ n, n < j ∧ n ∉ t ∧ Ready ws t n ∧ u = n :: t) ∧ L3.length ≤ i * ws.length + j)
            ⟨L2, _, rfl, e23, hrp, e3 _ _ hla, fun q hq => Same.tup e3 (htup2 q hq), fun u => by rw [hmem]; exact ⟨.inl, fun z => z.resolve_right fun ⟨n, hn, _⟩ => absurd hn (Nat.not_lt_zero n)⟩, hlen2⟩ (fun n σ H4 hnw hp => ?_) (fun σ H4 hp => ?_)⟩
          · obtain ⟨L3, v6, rfl, e4, hrp4, hla4, htup4, hmem4, hlen4⟩ := hp
            rw [Int.zero_add]
            have hw : ws[n]? = some ws[n] := List.getElem?_eq_getElem hnw
            have wok := ok.walls _ (List.getElem_mem hnw)
            generalize ws[n] = ww at hw wok
            have hna : n < as.length := by omega
            have ha : as[n]? = some as[n] := List.getElem?_eq_getElem hna
            generalize as[n] = aw at ha
            have hav : (as.map V.ref)[n]? = some (.ref aw) := by
              rw [List.getElem?_map, ha]
              rfl
            -- a turn that makes nothing
            have quiet : (¬ (n ∉ t ∧ Ready ws t n)) → ∀ u, u ∈ L3.map (·.2) ↔ More ws (L.take i) u ∨ ∃ m, m < n + 1 ∧ m ∉ t ∧ Ready ws t m ∧ u = m :: t := fun hno u => by
              rw [hmem4]
              constructor
              · rintro (z | ⟨m, h1, h2⟩)
                · exact .inl z
                · exact .inr ⟨m, by omega, h2⟩
              · rintro (z | ⟨m, h1, h2, h3, h4⟩)
                · exact .inl z
                · by_cases e : m = n
                  · rw [e] at h2 h3
                    exact absurd ⟨h2, h3⟩ hno
                  · exact .inr ⟨m, by omega, h2, h3, h4⟩
            -- number not in tail
            refine ⟨_, rfl, _, rfl, ta, _, rfl, .inr (hta e4), rfl, flat_lot _, _, rfl, ?_⟩
            refine ite2 (fun c => ?_) (fun c => ?_)
            · have c1 : n ∉ t := by
                have z : (!inV (.int (n : Int)) (lotV t)) = true := c
                rw [inV_lot] at z
                simpa using z
              -- [.. sides(yard[1][number]) ..] != []
              have e14 := e1.trans e4
              refine ⟨_, rfl, y, _, 1, _, rfl, rfl, Same.tup e14 hY, atI_nat (j := 1) rfl, _, rfl, wa, _, (n : Int), _, rfl, rfl, Same.tup e14 hW, atI_nat hav, aw, ww, rfl, Same.tup e14 (hAt n aw ww ha hw), wok.s0, wok.s2, fun H5 sp e5 hsp => ?_⟩
              refine ⟨sp, rfl, ⟨_, hsp⟩, fun D nD => lc_inF nD hsp (Same.seq e5 hrp4) (told_len ww) (fun _ => rfl) (fun _ => rfl) (fun _ => rfl) fun H6 e6 hD => ?_⟩
              refine ⟨Nat.zero_le _, fun z0 nz0 => ?_⟩
              have s7 := same_upd (.lst []) nz0
              have e47 := e5.trans (e6.trans s7)
              refine ⟨.list _, .list [], .lst (Same.seq s7 (SqL.of hD)) (dp_ints _), .lst (SqL.of upd_same) .nil, shaped_intsL _, shaped_intsL [], _, rfl, ?_⟩
              rw [eqv_none]
              have hla7 := e47 _ _ hla4
              have hta7 := hta (e4.trans e47)
              have htup7 : ∀ q ∈ L3, SqT K (upd H6 z0 (.lst [])) q.1 (lotV q.2) := fun q hq => Same.tup e47 (htup4 q hq)
              have hrp7 := Same.seq e47 hrp4
              have e17 := e4.trans e47
              generalize upd H6 z0 (.lst []) = H7 at hla7 hta7 htup7 hrp7 e17
              refine ite2 (fun c2 => ?_) (fun c2 => ?_)
              · have hrdy : Ready ws t n := (ready_filter hw hrs).mp (by simpa using c2)
                -- later.append((number,) + tail)
                have small : (L3.map fun q : Addr × List Nat => V.ref q.1).length < sizeLine := by
                  rw [List.length_map]
                  exact big_line (by omega)
                have fin : ∀ {H8 : Hp} (p : Addr), Same H7 H8 → SqT K H8 p (lotV (n :: t)) → Same H1 (upd H8 la (.lst ((L3.map fun q => V.ref q.1) ++ [.ref p]))) ∧ SqL K (upd H8 la (.lst ((L3.map fun q => V.ref q.1) ++ [.ref p]))) rp (rs.map V.int) ∧
                    (upd H8 la (.lst ((L3.map fun q => V.ref q.1) ++ [.ref p]))) la = some (.lst ((L3 ++ [(p, n :: t)]).map fun q => V.ref q.1)) ∧ (∀ q ∈ L3 ++ [(p, n :: t)], SqT K (upd H8 la (.lst ((L3.map fun q => V.ref q.1) ++ [.ref p]))) q.1 (lotV q.2)) ∧
                    (∀ u, u ∈ (L3 ++ [(p, n :: t)]).map (·.2) ↔ More ws (L.take i) u ∨ ∃ m, m < n + 1 ∧ m ∉ t ∧ Ready ws t m ∧ u = m :: t) ∧ (L3 ++ [(p, n :: t)]).length ≤ i * ws.length + (n + 1) := fun {H8} p e8 hp8 => by
                  have kk := but_upd (H := H8) (p := la) (.lst ((L3.map fun q => V.ref q.1) ++ [.ref p]))
                  have hla8 := e8 _ _ hla7
                  refine ⟨Same.but_new (e17.trans e8) nla kk, ?_, ?_, fun q hq => ?_, fun u => ?_, ?_⟩
                  · exact but_seqI kk hla8 ((hrs 0).mpr .out) (Same.seq e8 hrp7)
                  · rw [upd_same, List.map_append]
                    rfl
                  · rcases List.mem_append.mp hq with hq | hq
                    · exact But.tup kk hla8 (Same.tup e8 (htup7 q hq))
                    · rw [List.mem_singleton.mp hq]
                      exact But.tup kk hla8 hp8
                  · rw [List.map_append, List.mem_append, hmem4]
                    constructor
                    · rintro ((z | ⟨m, h1, h2⟩) | z)
                      · exact .inl z
                      · exact .inr ⟨m, by omega, h2⟩
                      · exact .inr ⟨n, Nat.lt_succ_self n, c1, hrdy, List.mem_singleton.mp z⟩
                    · rintro (z | ⟨m, h1, h2, h3, h4⟩)
                      · exact .inl (.inl z)
                      · by_cases e : m = n
                        · rw [e] at h4
                          exact .inr (List.mem_singleton.mpr h4)
                        · exact .inl (.inr ⟨m, by omega, h2, h3, h4⟩)
                  · rw [List.length_append, List.length_singleton]
                    omega
                refine ⟨_, rfl, .inl ⟨rfl, _, SqL.of hla7⟩, _, rfl, line1, fun p1 n1 => ?_⟩
                have s8 := same_upd (.tup [.int (n : Int)]) n1
                refine ⟨_, rfl, p1, ta, _, _, rfl, rfl, .inl (.inl upd_same), Same.tup s8 hta7, List.cons_ne_nil _ _, ?_, fun hz => ?_, fun hz p2 n2 => ?_⟩
                · rw [lotV_len, htail.2]
                  exact Nat.le_of_lt (small1000 (by show 1 + k ≤ 1000; omega))
                · have ht0 : t = [] := by
                    cases t with
                    | nil => rfl
                    | cons a b => cases hz
                  obtain ⟨f1, f2, f3, f4, f5, f6⟩ := fin p1 s8 (by rw [ht0]; exact .inl (.inl upd_same))
                  exact ⟨la, _, _, rfl, rfl, s8 _ _ hla7, small, L3 ++ [(p1, n :: t)], _, rfl, f1, f2, f3, f4, f5, f6⟩
                · have s9 := same_upd (.tup ([.int (n : Int)] ++ lotV t)) n2
                  obtain ⟨f1, f2, f3, f4, f5, f6⟩ := fin p2 (s8.trans s9) (.inl (.inl upd_same))
                  exact ⟨la, _, _, rfl, rfl, s9 _ _ (s8 _ _ hla7), small, L3 ++ [(p2, n :: t)], _, rfl, f1, f2, f3, f4, f5, f6⟩
              · have hno : ¬ Ready ws t n := fun z => by
                  have z2 := (ready_filter hw hrs).mpr z
                  exact c2 (by simpa using z2)
                exact ⟨L3, _, rfl, e17, hrp7, hla7, htup7, quiet fun z => hno z.2, by omega⟩
            · have c1 : n ∈ t := by
                by_cases z : n ∈ t
                · exact z
                · refine absurd ?_ c
                  show (!inV (.int (n : Int)) (lotV t)) = true
                  rw [inV_lot, decide_eq_false z]
                  rfl
              exact ⟨L3, _, rfl, e4, hrp4, hla4, htup4, quiet fun z => z.1 c1, by omega⟩
          · obtain ⟨L3, v6, rfl, e4, hrp4, hla4, htup4, hmem4, hlen4⟩ := hp
            refine ⟨L3, _, _, _, _, rfl, e4, hla4, htup4, fun u => ?_, by rw [Nat.succ_mul]; exact hlen4⟩
            rw [hmem4, htk]
            unfold More
            rw [List.map_append]
            constructor
            · rintro (⟨t', h1, h2⟩ | ⟨n, h1, h2⟩)
              · exact ⟨t', List.mem_append_left _ h1, h2⟩
              · exact ⟨t, List.mem_append_right _ (List.mem_singleton.mpr rfl), n, h2⟩
            · rintro ⟨t', h1, n, h2⟩
              rcases List.mem_append.mp h1 with h1 | h1
              · exact .inl ⟨t', h1, n, h2⟩
              · have e : t' = t := List.mem_singleton.mp h1
                rw [e] at h2
                exact .inr ⟨n, h2.2.1.lt, h2⟩
      · obtain ⟨L2, v2, v4, v5, v6, rfl, e2, hla, htup2, hmem, hlen2⟩ := hp
        rw [List.length_map] at hmem hlen2
        rw [List.take_length] at hmem
        exact ⟨_, rfl, la, L2, _, _, _, _, _, rfl, e1.trans e2, hla, htup2, lay_next lay h6 hmem hlen2⟩
    · obtain ⟨fa, L, v2, v3, v4, v5, v6, rfl, e1, hfa, htup, lay⟩ := hp
      -- return sorted(found)
      have hmap : (L.map fun q : Addr × List Nat => (q.1, castL q.2)).map (fun q => V.ref q.1) = L.map fun q => V.ref q.1 := by
        rw [List.map_map]
        rfl
      refine ⟨_, rfl, fa, L.map (fun q => (q.1, castL q.2)), rfl, ?_, fun r hr => ?_, ?_, fun L' p hp hpw np => ?_⟩
      · rw [hmap]
        exact SqL.of hfa
      · obtain ⟨r', hr', rfl⟩ := List.mem_map.mp hr
        rw [← lotV_cast]
        exact htup r' hr'
      · by_cases h0 : ws.length = 0
        · refine .inr ?_
          have z := lay.len
          rw [h0] at z
          rw [List.length_map]
          exact Nat.lt_succ_of_le z
        · refine .inl fun r hr => ?_
          obtain ⟨r', hr', rfl⟩ := List.mem_map.mp hr
          have z := ((lay.mem r'.2).mp (List.mem_map.mpr ⟨r', hr', rfl⟩)).2
          intro e
          have z2 : (castL r'.2).length = 0 := congrArg List.length e
          unfold castL at z2
          rw [List.length_map] at z2
          omega
      · obtain ⟨M, rfl, hM, hW⟩ := words_back hp hpw lay
        have hmap2 : (M.map fun q : Addr × List Nat => (q.1, castL q.2)).map (fun q => V.ref q.1) = M.map fun q => V.ref q.1 := by
          rw [List.map_map]
          rfl
        rw [hmap2]
        have s9 := same_upd (.lst (M.map fun q => V.ref q.1)) np
        refine q _ p M (e1.trans s9) ⟨SqL.of upd_same, fun r hr => Same.tup s9 (htup r (hM.mem_iff.mp hr))⟩ ?_ hW
        rw [hM.length_eq]
        exact Nat.le_trans lay.len (Nat.le_trans (pow6 h6) (by decide))
end
end K02

/-! K02J -/
/-! _law_alike. -/
namespace K02
open PySem PySem.Spec PyProof.Rows L2

mutual
theorem dp_same {K : PySem.W.Frag} {H H' : Hp} (e : Same H H') : ∀ {v : V} {d : PyData}, Dp K H v d → Dp K H' v d
  | _, _, .non => .non
  | _, _, .bl b => .bl b
  | _, _, .int i => .int i
  | _, _, .str x => .str x
  | _, _, .lst h a => .lst (Same.seq e h) (dps_same e a)
  | _, _, .tup h a => .tup (Same.tup e h) (dps_same e a)
theorem dps_same {K : PySem.W.Frag} {H H' : Hp} (e : Same H H') : ∀ {vs : List V} {ds : List PyData}, DpAll K H vs ds → DpAll K H' vs ds
  | _, _, .nil => .nil
  | _, _, .cons h a => .cons (dp_same e h) (dps_same e a)
end
theorem dps_len {K : PySem.W.Frag} {H : Hp} : ∀ {vs : List V} {ds : List PyData}, DpAll K H vs ds → vs.length = ds.length
  | _, _, .nil => rfl
  | _, _, .cons _ a => congrArg Nat.succ (dps_len a)
theorem dps_get {K : PySem.W.Frag} {H : Hp} : ∀ {vs : List V} {ds : List PyData} {i : Nat} {d : PyData}, DpAll K H vs ds → ds[i]? = some d → ∃ v, vs[i]? = some v ∧ Dp K H v d
  | _, _, i, d, .nil, h => by simp at h
  | _, _, 0, d, .cons h _, e => by
    have z := Option.some.inj e
    subst z
    exact ⟨_, rfl, h⟩
  | _, _, i + 1, d, .cons _ a, e => by
    obtain ⟨v, h1, h2⟩ := dps_get (i := i) a e
    exact ⟨v, h1, h2⟩

/-- a list or a tuple, by the name of its class -/
structure Two (K : PySem.W.Frag) (H : Hp) (a : Addr) (xs : List V) (tn : String) : Prop where
  sq : ∀ H', Same H H' → SqL K H' a xs ∨ SqT K H' a xs
  ty : ∀ H', Same H H' → TyX K H' (.ref a) (.type tn)
theorem Two.tup {K : PySem.W.Frag} {H : Hp} {a : Addr} {xs : List V} (h : SqT K H a xs) : Two K H a xs "tuple" := ⟨fun _ e => .inr (Same.tup e h), fun _ e => tyx_tup (Same.tup e h)⟩
theorem Two.lst {K : PySem.W.Frag} {H : Hp} {a : Addr} {xs : List V} (h : SqL K H a xs) : Two K H a xs "list" := ⟨fun _ e => .inl (Same.seq e h), fun _ e => tyx_lst (Same.seq e h)⟩
/-- what isinstance tells of a class's name -/
structure Cl (K : PySem.W.Frag) (tn : String) (b : Bool) : Prop where
  any : PySem.W.kitAny K (.type tn) [.type "tuple", .type "list"] = some true
  lst : PySem.W.kitOne K (.type tn) (.type "list") = some b
theorem cl_tup (K : PySem.W.Frag) : Cl K "tuple" false := ⟨kitAny_cons (kit_ty (r := true) (by decide +kernel)) (fun z => nomatch z) (fun _ => rfl), kit_ty (by decide +kernel)⟩
theorem cl_lst (K : PySem.W.Frag) : Cl K "list" true := ⟨kitAny_cons (kit_ty (r := false) (by decide +kernel)) (fun _ => kitAny_cons (kit_ty (r := true) (by decide +kernel)) (fun z => nomatch z) (fun _ => rfl)) (fun z => nomatch z), kit_ty (by decide +kernel)⟩
theorem two_ix {K : PySem.W.Frag} {H H' : Hp} {a : Addr} {xs : List V} {tn : String} (t : Two K H a xs tn) (e : Same H H') {k : Int} {i : Nat} {v : V} {Q : VK} (hk : k = (i : Int)) (hv : xs[i]? = some v) (q : Q v H') : rIx K (.ref a) (.int k) H' Q := by
  rcases t.sq H' e with h | h
  · exact .inl ⟨a, xs, (i : Int), v, rfl, congrArg V.int hk, h, atI_nat hv, q⟩
  · exact .inr (.inl ⟨a, xs, (i : Int), v, rfl, congrArg V.int hk, h, atI_nat hv, q⟩)
theorem no_any (K : PySem.W.Frag) : PySem.W.kitAny K (.type "NoneType") [.type "tuple", .type "list"] = some false :=
  kitAny_cons (kit_ty (r := false) (by decide +kernel)) (fun _ => kitAny_cons (kit_ty (r := false) (by decide +kernel)) (fun _ => kitAny_nil) (fun z => nomatch z)) (fun z => nomatch z)
theorem int_any (K : PySem.W.Frag) : PySem.W.kitAny K (.type "int") [.type "tuple", .type "list"] = some false :=
  kitAny_cons (kit_ty (r := false) (by decide +kernel)) (fun _ => kitAny_cons (kit_ty (r := false) (by decide +kernel)) (fun _ => kitAny_nil) (fun z => nomatch z)) (fun z => nomatch z)

/-- n calls, one in another, are allowed -/
def spAl (K : PySem.W.Frag) (n : Nat) : Sp := fun vs H Q _ => ∃ (x y : V) (d : PyData) (m : Nat), n = m + 1 ∧ vs = [x, y] ∧ Dp K H x d ∧ Dp K H y d ∧ Flat m d ∧ ∀ H', Same H H' → Q (.bl true) H'
section
variable {P : Program} {w : World} {K : PySem.W.Frag} {mg : Str → Option Value} {base : Heap}
theorem al_none {f : Addr} {fd : FuncData} : FnOk P w K mg base CX0 0 f fd ["_law_found", "_law_due"] (spAl K 0) := by
  have no : ∀ vs H Q E, ¬ spAl K 0 vs H Q E := fun vs H Q E h => by
    obtain ⟨x, y, d, m, e, _⟩ := h
    omega
  exact ⟨fun vs H Q E h => absurd h (no vs H Q E), fun A outer s H args us vs Q E _ _ _ _ h => absurd h (no vs H Q E)⟩
theorem al_step {n : Nat} {f : Addr} {fd : FuncData} (D : Df K mg "_law_alike" sAlike ["_law_found", "_law_due"] f fd) (G : FnOk P w K mg base CX0 n f fd ["_law_found", "_law_due"] (spAl K n)) (T : Txt mg) : FnOk P w K mg base CX0 (n + 1) f fd ["_law_found", "_law_due"] (spAl K (n + 1)) := by
  refine D.F.ok scAlike (fun vs H Q E h => ?_) (fun cdv A outer s H vs Q E hr h => ?_)
  · obtain ⟨x, y, d, m, _, rfl, _⟩ := h
    rfl
  · obtain ⟨x, y, d, m, em, rfl, hx, hy, hf, q⟩ := h
    have em' : n = m := by omega
    subst em'
    refine ⟨_, (pss_cons (ps_if (pt_val (pe_callB call_isiT (by rfl) T.isi (by decide +kernel) (pa_cons (pv 1) (pa_cons (pe_tup (pa_cons (pe_bltn (v := .ty "tuple") (by rfl) T.tuple (by decide +kernel) rfl) (pa_cons (pe_bltn (v := .ty "list") (by rfl) T.list (by decide +kernel) rfl) pa_nil))) pa_nil))))
        (pss_cons (ps_if (PW.pt (pw_or (pt_not (pt_val (pe_callB call_isiT (by rfl) T.isi (by decide +kernel) (pa_cons (pv 0) (pa_cons (pe_tup (pa_cons (pe_bltn (v := .ty "tuple") (by rfl) T.tuple (by decide +kernel) rfl) (pa_cons (pe_bltn (v := .ty "list") (by rfl) T.list (by decide +kernel) rfl) pa_nil))) pa_nil))))) (pw_or1 (pt_cmpR op_ne (pe_callB call_isi (by rfl) T.isi (by decide +kernel) (pa_cons (pv 0) (pa_cons (pe_bltn (v := .ty "list") (by rfl) T.list (by decide +kernel) rfl) pa_nil))) (pe_callB call_isi (by rfl) T.isi (by decide +kernel) (pa_cons (pv 1) (pa_cons (pe_bltn (v := .ty "list") (by rfl) T.list (by decide +kernel) rfl) pa_nil))) (nomark _)))))
          (pss_one (ps_ret pe_bl))
          pss_nil)
        (pss_cons (ps_if (pt_cmpR op_ne (pe_callB call_len_seq (by rfl) T.len PySem.boot_len (pa_cons (pv 0) pa_nil)) (pe_callB call_len_seq (by rfl) T.len PySem.boot_len (pa_cons (pv 1) pa_nil)) (nomark _))
          (pss_one (ps_ret pe_bl))
          pss_nil)
        (pss_one (ps_ret (pe_cmpR (op_eqD hr.units) (pe_lc (own := [("_law_k", 2)]) (g := gName 2) rfl scAlike.nd (pi_range1 (by rfl) T.range (pa_cons (pe_callB call_len_seq (by rfl) T.len PySem.boot_len (pa_cons (pv 1) pa_nil)) pa_nil)) (blkOk_by (by show blkC ["_law_found", "_law_due", "_law_k"] (defScope sAlike) _ _ = true; decide +kernel)) (fun _ _ _ _ _ => pg_name (i := 2) scAlike.nd rfl (Or.inl rfl)) (fun _ _ _ _ _ => (pts_one (pt_not (pt_val (pe_call G hr (by rfl) D.m D.F.kp D.b .nil pass0 (pa_cons (pe_ix (ix_seqK (K := K) rfl) (pv 0) (pv 2) (fun _ _ => rfl)) (pa_cons (pe_ix (ix_seqK (K := K) rfl) (pv 1) (pv 2) (fun _ _ => rfl)) pa_nil))))))) (fun _ _ _ _ _ => (pv 2))) (pe_lst pa_nil) (nomark _))))))
        pss_nil)
      (pss_cons (ps_if (PW.pt (pw_or (pt_cmpR op_isN (pv 1) pe_non (nomark _)) (pw_or1 (pt_val (pe_callB call_isi (by rfl) T.isi (by decide +kernel) (pa_cons (pv 1) (pa_cons (pe_bltn (v := .ty "str") (by rfl) T.str (by decide +kernel) rfl) pa_nil)))))))
        (pss_one (ps_ret (pe_and (pe_cmpR op_eq (pv 0) (pv 1) (nomark _)) (pe_one (pe_cmpR op_eq (pe_callB call_isi (by rfl) T.isi (by decide +kernel) (pa_cons (pv 0) (pa_cons (pe_bltn (v := .ty "str") (by rfl) T.str (by decide +kernel) rfl) pa_nil))) (pe_callB call_isi (by rfl) T.isi (by decide +kernel) (pa_cons (pv 1) (pa_cons (pe_bltn (v := .ty "str") (by rfl) T.str (by decide +kernel) rfl) pa_nil))) (nomark _))))))
        pss_nil)
      (pss_one (ps_ret (pe_and (pe_callB call_isi (by rfl) T.isi (by decide +kernel) (pa_cons (pv 0) (pa_cons (pe_bltn (v := .ty "int") (by rfl) T.int (by decide +kernel) rfl) pa_nil))) (pe_and (pe_cmpR op_eq (pe_callB call_isi (by rfl) T.isi (by decide +kernel) (pa_cons (pv 0) (pa_cons (pe_bltn (v := .ty "bool") (by rfl) T.bool (by decide +kernel) rfl) pa_nil))) (pe_callB call_isi (by rfl) T.isi (by decide +kernel) (pa_cons (pv 1) (pa_cons (pe_bltn (v := .ty "bool") (by rfl) T.bool (by decide +kernel) rfl) pa_nil))) (nomark _)) (pe_one (pe_cmpR op_eq (pv 0) (pv 1) (nomark _))))))))), ?_⟩
    have pairs : Paired ClsV [.ty "tuple", .ty "list"] [.type "tuple", .type "list"] := .cons (.ty _) (.cons (.ty _) .nil)
    have kinds : (d = .none ∧ x = .non ∧ y = .non) ∨ (∃ i, d = .int i ∧ x = .int i ∧ y = .int i) ∨ ∃ (tn : String) (bl : Bool) (a1 a2 : Addr) (xs1 xs2 : List V) (ds : List PyData) (m : Nat), n = m + 1 ∧ x = .ref a1 ∧ y = .ref a2 ∧ Cl K tn bl ∧ Two K H a1 xs1 tn ∧ Two K H a2 xs2 tn ∧ DpAll K H xs1 ds ∧ DpAll K H xs2 ds ∧ ds.length ≤ 100 ∧ ∀ d ∈ ds, Flat m d := by
      cases hf with
      | non =>
        cases hx
        cases hy
        exact .inl ⟨rfl, rfl, rfl⟩
      | int i =>
        cases hx
        cases hy
        exact .inr (.inl ⟨i, rfl, rfl, rfl⟩)
      | tup hl hall =>
        cases hx with
        | tup h1 a1 =>
          cases hy with
          | tup h2 a2 => exact .inr (.inr ⟨"tuple", false, _, _, _, _, _, _, rfl, rfl, rfl, cl_tup K, .tup h1, .tup h2, a1, a2, hl, hall⟩)
      | lst hl hall =>
        cases hx with
        | lst h1 a1 =>
          cases hy with
          | lst h2 a2 => exact .inr (.inr ⟨"list", true, _, _, _, _, _, _, rfl, rfl, rfl, cl_lst K, .lst h1, .lst h2, a1, a2, hl, hall⟩)
    rcases kinds with ⟨rfl, rfl, rfl⟩ | ⟨i, rfl, rfl, rfl⟩ | ⟨tn, bl, a1, a2, xs1, xs2, ds, m, em, rfl, rfl, cl, t1, t2, d1, d2, hl, hall⟩
    · -- None
      refine ⟨_, rfl, line2, fun tp ntp => ⟨_, tp, _, _, _, false, rfl, upd_same, pairs, .base .non, no_any K, false, rfl, iteF ?_⟩⟩
      have s1 := same_upd (.tup [.ty "tuple", .ty "list"]) ntp
      refine ⟨_, rfl, rfl, _, rfl, ite2 (fun _ => iteT ?_) (fun c => absurd (decide_eq_true rfl) c)⟩
      refine ⟨_, rfl, _, rfl, rfl, _, rfl, ite2 (fun _ => ?_) (fun c => absurd (decide_eq_true rfl) c)⟩
      refine ⟨_, rfl, _, _, _, _, false, rfl, .ty "str", .base .non, kit_ty (by decide +kernel), _, rfl, _, _, _, _, false, rfl, .ty "str", .base .non, kit_ty (by decide +kernel), rfl, ?_⟩
      show Q (.bl (decide (V.bl false = V.bl false))) _
      rw [decide_eq_true rfl]
      exact q _ s1
    · -- a whole number
      refine ⟨_, rfl, line2, fun tp ntp => ⟨_, tp, _, _, _, false, rfl, upd_same, pairs, .base (.int i), int_any K, false, rfl, iteF ?_⟩⟩
      have s1 := same_upd (.tup [.ty "tuple", .ty "list"]) ntp
      refine ⟨_, rfl, rfl, false, congrArg V.bl (decide_eq_false (fun z => nomatch z)), iteF ?_⟩
      refine ⟨_, rfl, _, _, _, _, false, rfl, .ty "str", .base (.int i), kit_ty (by decide +kernel), false, rfl, iteF ?_⟩
      refine ⟨_, rfl, _, _, _, _, true, rfl, .ty "int", .base (.int i), kit_ty (by decide +kernel), true, rfl, iteT ?_⟩
      refine ⟨_, rfl, _, _, _, _, false, rfl, .ty "bool", .base (.int i), kit_ty (by decide +kernel), _, rfl, _, _, _, _, false, rfl, .ty "bool", .base (.int i), kit_ty (by decide +kernel), rfl, true, congrArg V.bl (decide_eq_true rfl), iteT ?_⟩
      refine ⟨_, rfl, _, rfl, rfl, ?_⟩
      show Q (.bl (decide (V.int i = V.int i))) _
      rw [decide_eq_true rfl]
      exact q _ s1
    · -- two tuples, two lists
      have l1 := dps_len d1
      have l2 := dps_len d2
      refine ⟨_, rfl, line2, fun tp ntp => ?_⟩
      have s1 := same_upd (.tup [.ty "tuple", .ty "list"]) ntp
      refine ⟨_, tp, _, _, _, true, rfl, upd_same, pairs, t2.ty _ s1, cl.any, true, rfl, iteT ?_⟩
      refine ⟨_, rfl, line2, fun tq ntq => ?_⟩
      have s2 := s1.trans (same_upd (.tup [.ty "tuple", .ty "list"]) ntq)
      refine ⟨_, tq, _, _, _, true, rfl, upd_same, pairs, t1.ty _ s2, cl.any, true, rfl, iteF ?_⟩
      refine ⟨_, rfl, _, _, _, _, bl, rfl, .ty "list", t1.ty _ s2, cl.lst, _, rfl, _, _, _, _, bl, rfl, .ty "list", t2.ty _ s2, cl.lst, rfl, _, rfl, iteNS rfl ?_⟩
      refine ⟨_, rfl, a1, xs1, rfl, t1.sq _ s2, _, rfl, a2, xs2, rfl, t2.sq _ s2, rfl, _, rfl, iteNS (by rw [l1, l2]) ?_⟩
      -- [k for k in range(len(due)) if not alike(found[k], due[k])] == []
      refine ⟨_, rfl, a2, xs2, rfl, t2.sq _ s2, (ds.length : Int), by rw [l2], by omega, by omega, fun D nD => lc_range (lo := 0) (n := ds.length) (fun i H' => Same (upd (upd H tp (.tup [.ty "tuple", .ty "list"])) tq (.tup [.ty "tuple", .ty "list"])) H' ∧ H' D = some (.lst []))
        ⟨same_upd _ nD, upd_same⟩ (fun i H3 hi hp => ?_) (fun H3 hp => ?_)⟩
      · obtain ⟨e3, hD⟩ := hp
        have e4 := s2.trans e3
        have hd : ds[i]? = some ds[i] := List.getElem?_eq_getElem hi
        have hfl : Flat m ds[i] := hall _ (List.getElem_mem hi)
        generalize ds[i] = dd at hd hfl
        obtain ⟨v1, g1, p1⟩ := dps_get d1 hd
        obtain ⟨v2, g2, p2⟩ := dps_get d2 hd
        refine ⟨rfl, _, rfl, _, rfl, two_ix (i := i) t1 e4 (by omega) g1 ⟨_, rfl, _, rfl, two_ix (i := i) t2 e4 (by omega) g2 ?_⟩⟩
        exact ⟨v1, v2, dd, m, em, rfl, dp_same e4 p1, dp_same e4 p2, hfl, fun H5 e5 => ⟨true, rfl, iteF ⟨e3.trans e5, e5 _ _ hD⟩⟩⟩
      · obtain ⟨e3, hD⟩ := hp
        refine ⟨Nat.zero_le _, fun l0 nl0 => ?_⟩
        have s6 := same_upd (.lst []) nl0
        exact ⟨.list [], .list [], .lst (Same.seq s6 (SqL.of hD)) .nil, .lst (SqL.of upd_same) .nil, shaped_intsL [], shaped_intsL [], q _ (s2.trans (e3.trans s6))⟩
theorem ok_alike {f : Addr} {fd : FuncData} (D : Df K mg "_law_alike" sAlike ["_law_found", "_law_due"] f fd) (T : Txt mg) : ∀ n : Nat, FnOk P w K mg base CX0 n f fd ["_law_found", "_law_due"] (spAl K n)
  | 0 => al_none
  | n + 1 => al_step D (ok_alike D T n) T
end
end K02

/-! K02K -/
/-! The law's own def. -/
namespace K02
open PySem PySem.Spec PyProof.Rows L2

/-- a cut: what is to be known of a value and the heap behind it, whatever way led there -/
def tCut (t : TE) : TE := fun σ H Q => ∃ G : V → Hp → Prop, t σ H G ∧ ∀ x H', G x H' → Q x H'
theorem pe_cut {X : Cx} {e : Expr} {t : TE} (h : PE X e t) : PE X e (tCut t) := by
  refine ⟨fun pins s σ H Q I hw => ?_⟩
  obtain ⟨G, hG, hQ⟩ := hw
  refine thn (h.run pins s σ H G I hG) fun v s1 hv => ?_
  obtain ⟨x, H1, I1, r1, g1⟩ := hv
  exact ⟨x, H1, I1, r1, hQ x H1 g1⟩

/-! ### the order of tuples, as the comparison reckons it -/
theorem lexAt_le {ns ms : List Int} {s t : List Nat} (h : LexLe s t) : ∀ i : Nat, i ≤ ns.length → i ≤ ms.length → ns.drop i = castL s → ms.drop i = castL t →
    Ob.lexAt (fun j => decide (ns.getD j 0 = ms.getD j 0)) (fun j => decide (ns.getD j 0 ≤ ms.getD j 0)) (decide (ns.length ≤ ms.length)) i (min ns.length ms.length - i) = true := by
  have at0 : ∀ {l : List Int} {i : Nat} {a : Nat} {r : List Nat}, l.drop i = castL (a :: r) → l.getD i 0 = (a : Int) ∧ i < l.length ∧ l.drop (i + 1) = castL r := fun {l i a r} e => by
    have hi : i < l.length := by
      by_cases z : i < l.length
      · exact z
      · rw [List.drop_eq_nil_of_le (by omega)] at e
        cases e
    rw [List.drop_eq_getElem_cons hi] at e
    have e1 : l[i] = (a : Int) := (List.cons.inj e).1
    have e2 : l.drop (i + 1) = castL r := (List.cons.inj e).2
    refine ⟨?_, hi, e2⟩
    rw [List.getD_eq_getElem?_getD, List.getElem?_eq_getElem hi]
    exact e1
  induction h with
  | nil =>
    intro i h1 h2 e1 e2
    have hn : ns.length = i := by
      have z : (ns.drop i).length = 0 := by rw [e1]; rfl
      rw [List.length_drop] at z
      omega
    rw [show min ns.length ms.length - i = 0 by omega, Ob.lexAt_zero]
    exact decide_eq_true (by omega)
  | lt hab =>
    intro i h1 h2 e1 e2
    obtain ⟨a1, a2, a3⟩ := at0 e1
    obtain ⟨b1, b2, b3⟩ := at0 e2
    rw [show min ns.length ms.length - i = (min ns.length ms.length - (i + 1)) + 1 by omega, Ob.lexAt_succ]
    rw [a1, b1, decide_eq_false (by omega)]
    exact decide_eq_true (by omega)
  | eq h ih =>
    intro i h1 h2 e1 e2
    obtain ⟨a1, a2, a3⟩ := at0 e1
    obtain ⟨b1, b2, b3⟩ := at0 e2
    rw [show min ns.length ms.length - i = (min ns.length ms.length - (i + 1)) + 1 by omega, Ob.lexAt_succ]
    rw [a1, b1, decide_eq_true rfl]
    exact ih (i + 1) a2 b2 a3 b3

/-! ### the orders as data -/
theorem dps_words {K : PySem.W.Frag} {H : Hp} : ∀ {L : List (Addr × List Nat)}, (∀ q ∈ L, SqT K H q.1 (lotV q.2)) → DpAll K H (L.map fun q => V.ref q.1) (L.map fun q => lotD q.2)
  | [], _ => .nil
  | q :: L, h => .cons (dp_lot (h q List.mem_cons_self)) (dps_words fun r hr => h r (List.mem_cons_of_mem _ hr))
theorem lay_lots : ∀ L : List (Addr × List Nat), PyData.canLayAll0 (L.map fun q => lotD q.2) = true
  | [] => rfl
  | q :: L => by
    show (PyData.canLay0 (lotD q.2) && PyData.canLayAll0 (L.map fun q => lotD q.2)) = true
    rw [lay_lots L]
    show (PyData.canLayAll0 ((q.2.map fun n : Nat => (n : Int)).map PyData.int) && true) = true
    rw [canLay_ints]
    rfl
theorem deep_lots : ∀ L : List (Addr × List Nat), PyData.depthAll (L.map fun q => lotD q.2) ≤ 1
  | [] => Nat.zero_le _
  | q :: L => by
    rw [List.map_cons, PyData.depthAll]
    have h1 := deep_lots L
    have h2 : PyData.depth (lotD q.2) = 1 := by
      unfold lotD
      rw [PyData.depth, PySem.W.depth_ints]
    rw [h2]
    omega
theorem shaped_words (L : List (Addr × List Nat)) : SeqAt.shaped (.list (L.map fun q => lotD q.2)) = true := by
  unfold SeqAt.shaped
  rw [Bool.and_eq_true]
  refine ⟨lay_lots L, ?_⟩
  rw [PyData.depth]
  have := deep_lots L
  exact decide_eq_true (by omega)
theorem words_empty (L : List (Addr × List Nat)) : (!PyData.eqv (.list (L.map fun q => lotD q.2)) (.list [])) = !decide (L = []) := by
  cases L <;> rfl
/-! ### walls as data -/
def wallD (w : Wall) : PyData := .tuple ([w.lo, w.hi, w.sd].map PyData.int)
theorem dps_walls {K : PySem.W.Frag} {H : Hp} : ∀ {M : List (Addr × Wall)}, (∀ q ∈ M, SqT K H q.1 (wallV q.2)) → DpAll K H (M.map fun q => V.ref q.1) (M.map fun q => wallD q.2)
  | [], _ => .nil
  | q :: M, h => .cons (.tup (h q List.mem_cons_self) (dp_ints [q.2.lo, q.2.hi, q.2.sd])) (dps_walls fun r hr => h r (List.mem_cons_of_mem _ hr))
theorem lay_walls : ∀ M : List (Addr × Wall), PyData.canLayAll0 (M.map fun q => wallD q.2) = true
  | [] => rfl
  | q :: M => by
    show (PyData.canLay0 (wallD q.2) && PyData.canLayAll0 (M.map fun q => wallD q.2)) = true
    rw [lay_walls M]
    rfl
theorem deep_walls : ∀ M : List (Addr × Wall), PyData.depthAll (M.map fun q => wallD q.2) ≤ 1
  | [] => Nat.zero_le _
  | q :: M => by
    rw [List.map_cons, PyData.depthAll]
    have h1 := deep_walls M
    have h2 : PyData.depth (wallD q.2) = 1 := by
      unfold wallD
      rw [PyData.depth, PySem.W.depth_ints]
    rw [h2]
    omega
theorem shaped_walls (M : List (Addr × Wall)) : SeqAt.shaped (.list (M.map fun q => wallD q.2)) = true := by
  unfold SeqAt.shaped
  rw [Bool.and_eq_true]
  refine ⟨lay_walls M, ?_⟩
  rw [PyData.depth]
  have := deep_walls M
  exact decide_eq_true (by omega)
theorem walls_empty (M : List (Addr × Wall)) : PyData.eqv (.list (M.map fun q => wallD q.2)) (.list []) = decide (M = []) := by
  cases M <;> rfl

/-! ### first_order, last_order by their answer -/
def Ans (R : List Wall → List Nat → List Nat → Prop) (K : PySem.W.Frag) (H : Hp) (ws : List Wall) (x : V) : Prop :=
  (x = .non ∧ ¬ Growth ws (every ws)) ∨ ∃ p f, x = .ref p ∧ Growth ws (every ws) ∧ R ws (every ws) f ∧ SqT K H p (lotV f)
theorem Ans.same {R : List Wall → List Nat → List Nat → Prop} {K : PySem.W.Frag} {H H' : Hp} {ws : List Wall} {x : V} (a : Ans R K H ws x) (e : Same H H') : Ans R K H' ws x := by
  rcases a with a | ⟨p, f, h1, h2, h3, h4⟩
  · exact .inl a
  · exact .inr ⟨p, f, h1, h2, h3, Same.tup e h4⟩
def spAns (R : List Wall → List Nat → List Nat → Prop) (K : PySem.W.Frag) : Sp := fun vs H Q _ => ∃ (y : Addr) (many : Int) (ws : List Wall), vs = [.ref y] ∧ YardAt K H y many ws ∧ YardOk many ws ∧ ∀ H' x, Same H H' → Ans R K H' ws x → Q x H'
theorem order_ans {P : Program} {w : World} {K : PySem.W.Frag} {mg : Str → Option Value} {base : Heap} {k : Nat} {f : Addr} {fd : FuncData} {R : List Wall → List Nat → List Nat → Prop} (F : FnOk P w K mg base CX0 k f fd ["yard"] (spOrder R K)) : FnOk P w K mg base CX0 k f fd ["yard"] (spAns R K) :=
  F.imp fun vs H Q E h => by
    obtain ⟨y, many, ws, e, h1, h2, q⟩ := h
    exact ⟨y, many, ws, e, h1, h2, fun H' e' hn => q H' .non e' (.inl ⟨rfl, hn⟩), fun H' p f e' hg hf hp => q H' _ e' (.inr ⟨p, f, rfl, hg, hf, hp⟩)⟩
theorem flat_lotD {l : List Nat} (h : l.length ≤ 100) : Flat 1 (lotD l) := by
  refine .tup (by rw [List.length_map, List.length_map]; exact h) fun d hd => ?_
  obtain ⟨i, _, rfl⟩ := List.mem_map.mp hd
  exact .int i
/-- an answer as data: d is what the list of all orders has there -/
theorem ans_dp {R : List Wall → List Nat → List Nat → Prop} {K : PySem.W.Frag} {H : Hp} {ws : List Wall} {x : V} {d : PyData} (a : Ans R K H ws x) (h1 : ¬ Growth ws (every ws) → d = .none) (h2 : ∀ f, Growth ws (every ws) → R ws (every ws) f → d = lotD f) : Dp K H x d := by
  rcases a with ⟨e, hn⟩ | ⟨p, f, e, hg, hf, hp⟩
  · rw [e, h1 hn]
    exact .non
  · rw [e, h2 f hg hf]
    exact dp_lot hp
end K02

/-! K02L -/
/-! law. -/
namespace K02
open PySem PySem.Spec PyProof.Rows L2
section
variable {P : Program} {w : World} {K : PySem.W.Frag} {mg : Str → Option Value} {base : Heap}
theorem bool_same {a b : Bool} {p : Prop} (h : a = true ↔ p) (k : b = true ↔ p) : a = b := by
  rw [Bool.eq_iff_iff, h, k]
theorem line4 : 4 ≤ sizeLine := by decide

theorem ok_law {f g1 g2 g3 g4 g5 g6 g7 g8 g9 g10 g11 : Addr} {fd gd1 gd2 gd3 gd4 gd5 gd6 gd7 gd8 gd9 gd10 gd11 : FuncData} (F : Fun K "law" "law" sLaw f fd)
    (D1 : Df K mg "has_order" sHas ["yard"] g1 gd1) (G1 : FnOk P w K mg base CX0 5 g1 gd1 ["yard"] (spHas K))
    (D2 : Df K mg "first_order" sFirst ["yard"] g2 gd2) (G2 : FnOk P w K mg base CX0 5 g2 gd2 ["yard"] (spAns First K))
    (D3 : Df K mg "last_order" sLast ["yard"] g3 gd3) (G3 : FnOk P w K mg base CX0 5 g3 gd3 ["yard"] (spAns Last K))
    (D4 : Df K mg "_law_yard" sYard ["_law_row", "_law_rooms", "_law_shuts", "_law_either"] g4 gd4) (G4 : FnOk P w K mg base CX0 2 g4 gd4 ["_law_row", "_law_rooms", "_law_shuts", "_law_either"] (spDraw K))
    (D5 : Df K mg "_law_words" sWords ["_law_yard_here"] g5 gd5) (G5 : FnOk P w K mg base CX0 3 g5 gd5 ["_law_yard_here"] (spWords K))
    (D6 : Df K mg "_law_is" sIs ["_law_found", "_law_due"] g6 gd6)
    (D7 : Df K mg "_law_alike" sAlike ["_law_found", "_law_due"] g7 gd7)
    (D8 : Df K mg "_law_come" sCome ["_law_yard_here", "_law_lot"] g8 gd8) (G8 : FnOk P w K mg base CX0 2 g8 gd8 ["_law_yard_here", "_law_lot"] (spReached K))
    (D9 : Df K mg "_law_sides" sLSides ["_law_shut"] g9 gd9)
    (D10 : Df K mg "_law_grows" sGrows ["_law_yard_here", "_law_order"] g10 gd10) (G10 : FnOk P w K mg base CX0 3 g10 gd10 ["_law_yard_here", "_law_order"] (spIsOrd K))
    (D11 : Df K mg "is_order" sIsOrd ["yard", "order"] g11 gd11) (G11 : FnOk P w K mg base CX0 5 g11 gd11 ["yard", "order"] (spIsOrd K)) (T : Txt mg) :
    FnOk P w K mg base CX0 6 f fd ["_law_script"] (spLaw K) := by
  have G6 : FnOk P w K mg base CX0 1 g6 gd6 ["_law_found", "_law_due"] spIs := ok_is D6.F T
  have G7 : FnOk P w K mg base CX0 3 g7 gd7 ["_law_found", "_law_due"] (spAl K 3) := ok_alike D7 T 3
  have G9 : FnOk P w K mg base CX0 1 g9 gd9 ["_law_shut"] (spSides K) := ok_lsides D9.F
  refine F.ok scLaw (fun vs H Q E h => ?_) (fun cdv A outer s H vs Q E hr h => ?_)
  · obtain ⟨a, ns, rfl, _⟩ := h
    rfl
  · obtain ⟨a, ns, rfl, hS, hlen, q⟩ := h
    have hr1 : Room 1 _ := hr.mono (by decide)
    have hr2 : Room 2 _ := hr.mono (by decide)
    have hr3 : Room 3 _ := hr.mono (by decide)
    refine ⟨_, (pss_cons (ps_set (i := 1) scLaw.nd rfl (.inl rfl) (pe_lst (pa_cons (pv 0) (pa_cons pe_int (pa_cons pe_int (pa_cons pe_int pa_nil))))))
      (pss_cons (ps_set (i := 2) scLaw.nd rfl (.inl rfl) (pe_call G4 hr2 (by rfl) D4.m D4.F.kp D4.b .nil pass0 (pa_cons (pv 1) (pa_cons pe_int (pa_cons pe_int (pa_cons pe_int pa_nil))))))
      (pss_cons (ps_set (i := 3) scLaw.nd rfl (.inl rfl) (pe_call G5 hr3 (by rfl) D5.m D5.F.kp D5.b .nil pass0 (pa_cons (pv 2) pa_nil)))
      (pss_cons (ps_set (i := 4) scLaw.nd rfl (.inl rfl) (pe_lst (pa_cons (pe_cmpR (op_neD hr.units) (pv 3) (pe_lst pa_nil) (nomark _)) (pa_cons (pe_cut (pe_ifExp (pt_cmpR (op_neD hr.units) (pv 3) (pe_lst pa_nil) (nomark _)) (pe_ix ix_list (pv 3) pe_int (fun _ _ => rfl)) pe_non)) (pa_cons (pe_cut (pe_ifExp (pt_cmpR (op_neD hr.units) (pv 3) (pe_lst pa_nil) (nomark _)) (pe_ix ix_list (pv 3) (pe_un un_neg pe_int) (fun _ _ => rfl)) pe_non)) pa_nil)))))
      (pss_cons (ps_if (pt_not (pt_val (pe_call G6 hr1 (by rfl) D6.m D6.F.kp D6.b .nil pass0 (pa_cons (pe_call G1 hr (by rfl) D1.m D1.F.kp D1.b .nil pass0 (pa_cons (pv 2) pa_nil)) (pa_cons (pe_ix ix_list (pv 4) pe_int (fun _ _ => rfl)) pa_nil)))))
        (pss_one (ps_ret pe_bl))
        pss_nil)
      (pss_cons (ps_if (pt_not (pt_val (pe_call G7 hr3 (by rfl) D7.m D7.F.kp D7.b .nil pass0 (pa_cons (pe_lst (pa_cons (pe_call G2 hr (by rfl) D2.m D2.F.kp D2.b .nil pass0 (pa_cons (pv 2) pa_nil)) (pa_cons (pe_call G3 hr (by rfl) D3.m D3.F.kp D3.b .nil pass0 (pa_cons (pv 2) pa_nil)) pa_nil))) (pa_cons (pe_slice sl_list (pv 4) (po_some pe_int) po_none) pa_nil)))))
        (pss_one (ps_ret pe_bl))
        pss_nil)
      (pss_cons (ps_set (i := 5) scLaw.nd rfl (.inl rfl) (pe_call G4 hr2 (by rfl) D4.m D4.F.kp D4.b .nil pass0 (pa_cons (pv 1) (pa_cons pe_int (pa_cons pe_int (pa_cons pe_int pa_nil))))))
      (pss_cons (ps_par (i := 6) (j := 7) rfl scLaw.nd rfl rfl (by decide) rfl rfl (pa_cons (pe_call G2 hr (by rfl) D2.m D2.F.kp D2.b .nil pass0 (pa_cons (pv 5) pa_nil)) (pa_cons (pe_call G3 hr (by rfl) D3.m D3.F.kp D3.b .nil pass0 (pa_cons (pv 5) pa_nil)) pa_nil)) (by rfl))
      (pss_cons (ps_set (i := 8) scLaw.nd rfl (.inr rfl) (pe_call G8 hr2 (by rfl) D8.m D8.F.kp D8.b .nil pass0 (pa_cons (pv 5) (pa_cons (pe_tupRg rfl (by rfl) T.tuple (prg_1 (by rfl) T.range (pe_callB call_len_seq (by rfl) T.len PySem.boot_len (pa_cons (pe_ix ix_tup (pv 5) pe_int (fun _ _ => rfl)) pa_nil)))) pa_nil))))
      (pss_cons (ps_set (i := 9) scLaw.nd rfl (.inl rfl) (pe_cmpR (op_eqD hr.units) (pe_lc (own := [("_law_shut", 10)]) (g := gName 10) rfl scLaw.nd (pi_tup (pe_ix ix_tup (pv 5) pe_int (fun _ _ => rfl))) (blkOk_by (by show blkC ["_law_script", "_law_row", "_law_yard_here", "_law_words_here", "_law_due", "_law_big", "_law_first", "_law_last", "_law_rooms", "_law_good", "_law_shut", "_law_side"] (defScope sLaw) _ _ = true; decide +kernel)) (fun _ _ _ _ _ => pg_name (i := 10) scLaw.nd rfl (Or.inl rfl)) (fun _ _ _ _ _ => (pts_one (pt_cmpR (eqDK hr.units (K := K) rfl) (pe_lc (own := [("_law_side", 11)]) (g := gName 11) rfl scLaw.nd (pi_tupK (K := K) rfl (pe_call G9 hr1 (by rfl) D9.m D9.F.kp D9.b .nil pass0 (pa_cons (pv 10) pa_nil))) (blkOk_by (by show blkC ["_law_script", "_law_row", "_law_yard_here", "_law_words_here", "_law_due", "_law_big", "_law_first", "_law_last", "_law_rooms", "_law_good", "_law_shut", "_law_side"] (relS _ (defScope sLaw)) _ _ = true; decide +kernel)) (fun _ _ _ _ _ => pg_name (i := 11) scLaw.nd rfl (Or.inl rfl)) (fun _ _ _ _ _ => (pts_one (pt_cmpR (inK (K := K) rfl) (pv 11) (pv 8) (by rfl)))) (fun _ _ _ _ _ => (pv 11))) (pe_lst pa_nil) (nomark _)))) (fun _ _ _ _ _ => (pv 10))) (pe_lst pa_nil) (nomark _)))
      (pss_cons (ps_if (PW.pt (pw_or (pt_cmpR op_ne (pe_call G1 hr (by rfl) D1.m D1.F.kp D1.b .nil pass0 (pa_cons (pv 5) pa_nil)) (pv 9) (nomark _)) (pw_or (pt_cmpR op_ne (pe_cmpR op_notN (pv 6) pe_non (nomark _)) (pv 9) (nomark _)) (pw_or1 (pt_cmpR op_ne (pe_cmpR op_notN (pv 7) pe_non (nomark _)) (pv 9) (nomark _))))))
        (pss_one (ps_ret pe_bl))
        pss_nil)
      (pss_one (ps_ret (pe_or (pe_not (pv 9)) (pe_one (pe_and (pe_call G10 hr3 (by rfl) D10.m D10.F.kp D10.b .nil pass0 (pa_cons (pv 5) (pa_cons (pv 6) pa_nil))) (pe_and (pe_call G11 hr (by rfl) D11.m D11.F.kp D11.b .nil pass0 (pa_cons (pv 5) (pa_cons (pv 7) pa_nil))) (pe_one (pe_cmpR (op_leT hr.units0) (pv 6) (pv 7) (nomark _)))))))))))))))))))), ?_⟩
    -- row = [script, 0, 4702, 0]
    refine ⟨_, rfl, line4, fun row nrow => ?_⟩
    have r1 : RowAt K H (upd H row (.lst [.ref a, .int 0, .int 4702, .int 0])) row := ⟨same_upd _ nrow, nrow, a, ns, 0, 4702, 0, hS, upd_same, by decide, by decide, by decide⟩
    -- yard = _law_yard(row, 5, 6, 1)
    refine ⟨_, rfl, row, 5, 6, H, rfl, r1, by decide, by decide, by decide, by decide, fun H2 y many ws b2 r2 hY ok hl => ?_⟩
    have h6 : ws.length ≤ 6 := by omega
    -- words = _law_words(yard)
    refine ⟨_, rfl, y, many, ws, rfl, hY, ok, h6, fun H3 wp L e3 hW _ W => ?_⟩
    have wdp : ∀ {H' : Hp}, Same H3 H' → Dp K H' (.ref wp) (.list (L.map fun q => lotD q.2)) := fun e => .lst (Same.seq e hW.1) (dps_words fun q hq => Same.tup e (hW.2 q hq))
    have hgrow : L ≠ [] ↔ Growth ws (every ws) := by
      rw [← W.growth]
      constructor
      · intro h z
        exact h (List.map_eq_nil_iff.mp z)
      · intro h z
        rw [z] at h
        exact h rfl
    -- words != []
    refine ⟨_, rfl, Nat.zero_le _, fun z1 nz1 => ⟨_, _, wdp (same_upd _ nz1), .lst (SqL.of upd_same) .nil, shaped_words L, shaped_intsL [], ?_⟩⟩
    have s4 := same_upd (.lst []) nz1
    rw [words_empty]
    generalize upd H3 z1 (.lst []) = H4 at s4
    -- words[0] if words != [] else None
    refine ⟨fun x H' => Same H4 H' ∧ (L = [] ∧ x = .non ∨ ∃ q, L[0]? = some q ∧ x = .ref q.1), ?_, fun x1 H5 hx1 => ?_⟩
    · refine ⟨_, rfl, Nat.zero_le _, fun z2 nz2 => ⟨_, _, wdp (s4.trans (same_upd _ nz2)), .lst (SqL.of upd_same) .nil, shaped_words L, shaped_intsL [], _, rfl, ?_⟩⟩
      have s5 := same_upd (.lst []) nz2
      rw [words_empty]
      refine ite2 (fun c => ?_) (fun c => ?_)
      · have hne : L ≠ [] := by simpa using c
        obtain ⟨q0, L0, hL0⟩ := List.exists_cons_of_ne_nil hne
        have h0 : L[0]? = some q0 := by rw [hL0]; rfl
        have h0r : (L.map fun q => V.ref q.1)[0]? = some (.ref q0.1) := by rw [List.getElem?_map, h0]; rfl
        exact ⟨_, rfl, wp, _, 0, _, rfl, rfl, Same.seq (s4.trans s5) hW.1, atI_nat (j := 0) h0r, s5, .inr ⟨q0, h0, rfl⟩⟩
      · have he : L = [] := by simpa using c
        exact ⟨s5, .inl ⟨he, rfl⟩⟩
    obtain ⟨e5, hx1⟩ := hx1
    -- words[-1] if words != [] else None
    refine ⟨fun x H' => Same H5 H' ∧ (L = [] ∧ x = .non ∨ ∃ q, L.getLast? = some q ∧ x = .ref q.1), ?_, fun x2 H6 hx2 => ?_⟩
    · refine ⟨_, rfl, Nat.zero_le _, fun z2 nz2 => ⟨_, _, wdp (s4.trans (e5.trans (same_upd _ nz2))), .lst (SqL.of upd_same) .nil, shaped_words L, shaped_intsL [], _, rfl, ?_⟩⟩
      have s6 := same_upd (.lst []) nz2
      rw [words_empty]
      refine ite2 (fun c => ?_) (fun c => ?_)
      · have hne : L ≠ [] := by simpa using c
        have hl0 : L.getLast? = some (L.getLast hne) := List.getLast?_eq_getLast hne
        have hat : atI (L.map fun q => V.ref q.1) (-1) = some (.ref (L.getLast hne).1) := by
          have z : (L.map fun q => V.ref q.1) = (L.dropLast.map fun q => V.ref q.1) ++ [.ref (L.getLast hne).1] := by
            rw [← List.map_singleton (f := fun q : Addr × List Nat => V.ref q.1), ← List.map_append, List.dropLast_concat_getLast]
          rw [z]
          exact atI_last _ _
        exact ⟨_, rfl, 1, rfl, wp, _, -1, _, rfl, rfl, Same.seq (s4.trans (e5.trans s6)) hW.1, hat, s6, .inr ⟨_, hl0, rfl⟩⟩
      · have he : L = [] := by simpa using c
        exact ⟨s6, .inl ⟨he, rfl⟩⟩
    obtain ⟨e6, hx2⟩ := hx2
    refine ⟨line3, fun da nda => ?_⟩
    have s7 := same_upd (.lst [.bl (!decide (L = [])), x1, x2]) nda
    have hda : (upd H6 da (.lst [.bl (!decide (L = [])), x1, x2])) da = some (.lst [.bl (!decide (L = [])), x1, x2]) := upd_same
    have e37 : Same H3 (upd H6 da (.lst [.bl (!decide (L = [])), x1, x2])) := s4.trans (e5.trans (e6.trans s7))
    generalize upd H6 da (.lst [.bl (!decide (L = [])), x1, x2]) = H7 at hda e37
    -- what is due, as data
    obtain ⟨d1, p1, q1, f1⟩ : ∃ d1, Dp K H7 x1 d1 ∧ Flat 1 d1 ∧ (¬ Growth ws (every ws) → d1 = .none) ∧ ∀ t, Growth ws (every ws) → First ws (every ws) t → d1 = lotD t := by
      rcases hx1 with ⟨he, e⟩ | ⟨q0, h0, e⟩
      · rw [e]
        exact ⟨.none, .non, .non, fun _ => rfl, fun t hg _ => absurd he (hgrow.mpr hg)⟩
      · rw [e]
        have hq0 : q0 ∈ L := List.mem_of_getElem? h0
        have hne : L ≠ [] := fun z => by rw [z] at hq0; exact absurd hq0 List.not_mem_nil
        have hlq : q0.2.length ≤ 100 := by
          have z := ((W.mem q0.2).mp (List.mem_map.mpr ⟨q0, hq0, rfl⟩)).2
          omega
        refine ⟨lotD q0.2, dp_lot (Same.tup e37 (hW.2 q0 hq0)), flat_lotD hlq, fun hn => absurd (hgrow.mp hne) hn, fun t _ ht => ?_⟩
        have z := W.first ht
        rw [List.getElem?_map, h0] at z
        have z2 : q0.2 = t := Option.some.inj z
        rw [z2]
    obtain ⟨d2, p2, q2, f2⟩ : ∃ d2, Dp K H7 x2 d2 ∧ Flat 1 d2 ∧ (¬ Growth ws (every ws) → d2 = .none) ∧ ∀ t, Growth ws (every ws) → Last ws (every ws) t → d2 = lotD t := by
      rcases hx2 with ⟨he, e⟩ | ⟨q0, h0, e⟩
      · rw [e]
        exact ⟨.none, .non, .non, fun _ => rfl, fun t hg _ => absurd he (hgrow.mpr hg)⟩
      · rw [e]
        have hq0 : q0 ∈ L := List.mem_of_getLast? h0
        have hne : L ≠ [] := fun z => by rw [z] at hq0; exact absurd hq0 List.not_mem_nil
        have hlq : q0.2.length ≤ 100 := by
          have z := ((W.mem q0.2).mp (List.mem_map.mpr ⟨q0, hq0, rfl⟩)).2
          omega
        refine ⟨lotD q0.2, dp_lot (Same.tup e37 (hW.2 q0 hq0)), flat_lotD hlq, fun hn => absurd (hgrow.mp hne) hn, fun t _ ht => ?_⟩
        have z := W.last ht
        rw [List.getLast?_map, h0] at z
        have z2 : q0.2 = t := Option.some.inj z
        rw [z2]
    have hY7 := YardAt.same (e3.trans e37) hY
    have r7 := r2.same (e3.trans e37)
    -- _law_is(has_order(yard), due[0])
    refine ⟨_, rfl, y, many, ws, rfl, hY7, ok, fun H8 b e8 hb => ?_⟩
    have eb : b = !decide (L = []) := bool_same hb (by rw [← hgrow]; simp)
    refine ⟨_, rfl, da, _, 0, _, rfl, rfl, SqL.of (e8 _ _ hda), atI_nat (j := 0) rfl, b, by rw [eb]; rfl, true, rfl, iteF ?_⟩
    -- _law_alike([first_order(yard), last_order(yard)], due[1:])
    refine ⟨_, rfl, y, many, ws, rfl, YardAt.same e8 hY7, ok, fun H9 x3 e9 a3 => ?_⟩
    have e79 := e8.trans e9
    refine ⟨_, rfl, y, many, ws, rfl, YardAt.same e79 hY7, ok, fun H10 x4 e10 a4 => ⟨line2, fun fp nfp => ?_⟩⟩
    have s11 := same_upd (.lst [x3, x4]) nfp
    have e711 := e79.trans (e10.trans s11)
    refine ⟨_, rfl, 1, rfl, da, _, rfl, SqL.of (e711 _ _ hda), fun dp ndp => ?_⟩
    have s12 := same_upd (.lst [x1, x2]) ndp
    have e712 := e711.trans s12
    refine ⟨.ref fp, .ref dp, .list [d1, d2], 2, rfl, rfl, ?_, ?_, .lst (show 2 ≤ 100 by decide) (fun d hd => ?_), fun H13 e13 => ⟨true, rfl, iteF ?_⟩⟩
    · refine .lst (Same.seq s12 (SqL.of upd_same)) (.cons ?_ (.cons ?_ .nil))
      · exact ans_dp (a3.same (e10.trans (s11.trans s12))) f1.1 f1.2
      · exact ans_dp (a4.same (s11.trans s12)) f2.1 f2.2
    · exact .lst (SqL.of upd_same) (.cons (dp_same e712 p1) (.cons (dp_same e712 p2) .nil))
    · rcases List.mem_cons.mp hd with z | hd
      · rw [z]
        exact q1
      · rw [List.mem_singleton.mp hd]
        exact q2
    have r13 := r7.same (e712.trans e13)
    -- big = _law_yard(row, 9, 12, 1)
    refine ⟨_, rfl, row, 9, 12, H, rfl, r13, by decide, by decide, by decide, by decide, fun H14 yb mb wb _ _ hYb okb _ => ?_⟩
    obtain ⟨wa, as, hYy, hYw, hYlen, hYat⟩ := id hYb
    -- first, last = first_order(big), last_order(big)
    refine ⟨_, rfl, yb, mb, wb, rfl, hYb, okb, fun H15 x5 e15 a5 => ?_⟩
    refine ⟨_, rfl, yb, mb, wb, rfl, YardAt.same e15 hYb, okb, fun H16 x6 e16 a6 => ⟨_, _, rfl, ?_⟩⟩
    have e146 := e15.trans e16
    have h12 := okb.twelve
    -- rooms = _law_come(big, tuple(range(len(big[1]))))
    refine ⟨_, rfl, _, rfl, yb, _, 1, _, rfl, rfl, Same.tup e146 hYy, atI_nat (j := 1) rfl, wa, _, rfl, .inr (Same.tup e146 hYw), (wb.length : Int), by rw [List.length_map, hYlen], RgOk.of_le (by omega) (by omega) (by omega) (by omega), fun lp nlp => ?_⟩
    rw [rgV_lot]
    have s17 := same_upd (.tup (lotV (List.range wb.length))) nlp
    refine ⟨yb, lp, mb, wb, every wb, rfl, YardAt.same (e146.trans s17) hYb, okb, .inl (.inl upd_same), fun n hn => every_mem.mp hn, fun H18 rp rs e18 hrp hrs => ?_⟩
    have e148 := e146.trans (s17.trans e18)
    -- good = [..] == []
    have hYw8 := Same.tup e148 hYw
    refine ⟨_, rfl, yb, _, 1, _, rfl, rfl, Same.tup e148 hYy, atI_nat (j := 1) rfl, wa, rfl, ⟨_, hYw8⟩, fun D nD => ?_⟩
    refine lc_tup (K := K) (a := wa) (xs := as.map V.ref)
      (fun i H' => Same H18 H' ∧ ∃ M : List (Addr × Wall), H' D = some (.lst (M.map fun q => V.ref q.1)) ∧ (∀ q ∈ M, SqT K H18 q.1 (wallV q.2)) ∧ M.length ≤ i ∧ (M = [] ↔ ∀ n, n < i → Ready wb (every wb) n))
      ⟨same_upd _ nD, [], upd_same, fun q hq => absurd hq List.not_mem_nil, Nat.le_refl _, fun _ n hn => absurd hn (Nat.not_lt_zero n), fun _ => rfl⟩ (fun i H' _ h => Same.tup h.1 hYw8) (fun i x H19 hx h => ?_) (fun H19 h => ?_)
    · obtain ⟨e19, M, hD19, hM, hMl, hMe⟩ := h
      rw [List.getElem?_map] at hx
      cases ha : as[i]? with
      | none =>
        rw [ha] at hx
        cases hx
      | some aw =>
        rw [ha] at hx
        have ex : V.ref aw = x := Option.some.inj hx
        subst ex
        have hia := (List.getElem?_eq_some_iff.mp ha).1
        have hnw : i < wb.length := by omega
        have hw : wb[i]? = some wb[i] := List.getElem?_eq_getElem hnw
        have wok := okb.walls _ (List.getElem_mem hnw)
        generalize wb[i] = ww at hw wok
        have haw : SqT K H18 aw (wallV ww) := Same.tup e148 (hYat i aw ww ha hw)
        refine ⟨rfl, _, rfl, aw, ww, rfl, Same.tup e19 haw, wok.s0, wok.s2, fun H20 sp e20 hsp => ?_⟩
        refine ⟨sp, rfl, ⟨_, hsp⟩, fun D2 nD2 => lc_inF nD2 hsp (Same.seq (e19.trans e20) hrp) (told_len ww) (fun _ => rfl) (fun _ => rfl) (fun _ => rfl) fun H21 e21 hD21 => ?_⟩
        refine ⟨Nat.zero_le _, fun z0 nz0 => ?_⟩
        have s22 := same_upd (.lst []) nz0
        refine ⟨.list _, .list [], .lst (Same.seq s22 (SqL.of hD21)) (dp_ints _), .lst (SqL.of upd_same) .nil, shaped_intsL _, shaped_intsL [], _, rfl, ?_⟩
        rw [eqv_none]
        have e1922 := e20.trans (e21.trans s22)
        have hD22 := e1922 _ _ hD19
        refine ite2 (fun c => ?_) (fun c => ?_)
        · have hno : ¬ Ready wb (every wb) i := fun z => (ready_filter hw hrs).mpr z (of_decide_eq_true c)
          refine ⟨_, rfl, _, hD22, ?_, Same.but_new (e19.trans e1922) nD (but_upd _), M ++ [(aw, ww)], ?_, fun q hq => ?_, ?_, fun z => ?_, fun z => absurd (z i (Nat.lt_succ_self i)) hno⟩
          · rw [List.length_map]
            exact small1000 (by omega)
          · rw [upd_same, List.map_append]
            rfl
          · rcases List.mem_append.mp hq with hq | hq
            · exact hM q hq
            · rw [List.mem_singleton.mp hq]
              exact haw
          · rw [List.length_append, List.length_singleton]
            omega
          · exact absurd z (by simp)
        · have hyes : Ready wb (every wb) i := (ready_filter hw hrs).mp fun z => c (decide_eq_true z)
          refine ⟨e19.trans e1922, M, hD22, hM, by omega, ?_⟩
          rw [hMe]
          constructor
          · intro z n hn
            by_cases e : n = i
            · rw [e]
              exact hyes
            · exact z n (by omega)
          · intro z n hn
            exact z n (by omega)
    · obtain ⟨e19, M, hD19, hM, hMl, hMe⟩ := h
      rw [List.length_map, hYlen] at hMe
      have hgood : M = [] ↔ Growth wb (every wb) := by
        rw [hMe]
        exact ⟨fun z n hn => z n (every_mem.mp hn), fun z n hn => z n (every_mem.mpr hn)⟩
      refine ⟨Nat.zero_le _, fun z0 nz0 => ?_⟩
      have s20 := same_upd (.lst []) nz0
      refine ⟨.list (M.map fun q : Addr × Wall => wallD q.2), .list [], .lst (Same.seq s20 (SqL.of hD19)) (dps_walls fun q hq => Same.tup (e19.trans s20) (hM q hq)), .lst (SqL.of upd_same) .nil, shaped_walls M, shaped_intsL [], ?_⟩
      rw [walls_empty]
      have hgd : decide (M = []) = true ↔ Growth wb (every wb) := by rw [decide_eq_true_iff, hgood]
      have e1420 := e148.trans (e19.trans s20)
      have e1620 := s17.trans (e18.trans (e19.trans s20))
      generalize upd H19 z0 (.lst []) = H20 at e1420 e1620
      generalize decide (M = []) = gd at hgd
      have nn : ∀ {R : List Wall → List Nat → List Nat → Prop} {H' : Hp} {x : V}, Ans R K H' wb x → (!decide (x = .non)) = gd := fun {R H' x} an => by
        rcases an with ⟨e, hn⟩ | ⟨p, t, e, hg, _⟩
        · rw [e, decide_eq_true rfl]
          cases gd with
          | false => rfl
          | true => exact absurd (hgd.mp rfl) hn
        · rw [e, decide_eq_false (fun z => nomatch z)]
          exact (hgd.mpr hg).symm
      -- has_order(big) != good
      refine ⟨_, rfl, yb, mb, wb, rfl, YardAt.same e1420 hYb, okb, fun H21 b1 e21 hb1 => ⟨_, rfl, rfl, _, rfl, iteNS (congrArg V.bl (bool_same hb1 hgd)) ?_⟩⟩
      -- (first is not None) != good, (last is not None) != good
      refine ⟨_, rfl, rfl, _, rfl, rfl, _, rfl, iteNS (congrArg V.bl (nn a5)) ?_⟩
      refine ⟨_, rfl, rfl, _, rfl, rfl, _, rfl, iteNS (congrArg V.bl (nn a6)) ?_⟩
      -- not good or ..
      refine ⟨_, rfl, gd, rfl, _, rfl, ?_⟩
      have e1421 := e1420.trans e21
      have e1621 := e1620.trans e21
      cases gd with
      | false => exact iteT (q _)
      | true =>
        refine iteF ?_
        have hg := hgd.mp rfl
        rcases a5 with ⟨_, hn⟩ | ⟨p5, f5, rfl, _, hf5, hp5⟩
        · exact absurd hg hn
        · rcases a6 with ⟨_, hn⟩ | ⟨p6, l6, rfl, _, hl6, hp6⟩
          · exact absurd hg hn
          · obtain ⟨tf, pf⟩ := hf5.tail every_nodup
            obtain ⟨tl, pl⟩ := hl6.tail every_nodup
            have hp5' := Same.tup (e16.trans e1621) hp5
            have hp6' := Same.tup e1621 hp6
            refine ⟨_, rfl, _, rfl, yb, p5, mb, wb, f5, rfl, YardAt.same e1421 hYb, okb, hp5', tf, pf, fun H22 e22 => ⟨true, rfl, iteT ?_⟩⟩
            refine ⟨_, rfl, _, rfl, yb, p6, mb, wb, l6, rfl, YardAt.same (e1421.trans e22) hYb, okb, Same.tup e22 hp6', tl, pl, fun H23 e23 => ⟨true, rfl, iteT ?_⟩⟩
            refine ⟨_, rfl, _, rfl, p5, p6, castL f5, castL l6, rfl, rfl, ?_, ?_, ?_⟩
            · rw [← lotV_cast]
              exact Same.tup (e22.trans e23) hp5'
            · rw [← lotV_cast]
              exact Same.tup (e22.trans e23) hp6'
            · have z := lexAt_le (ns := castL f5) (ms := castL l6) (hf5.least every_nodup l6 tl pl) 0 (Nat.zero_le _) (Nat.zero_le _) rfl rfl
              rw [Nat.sub_zero] at z
              rw [z]
              exact q _
end
end K02

/-! K02TopA -/
namespace K02
open PySem PySem.Spec PyProof.Rows L2
/-! ### what the top has written -/
theorem all_mk {l : PySem.W.OpenLaw} {w : World} {K : PySem.W.Frag} {h : Heap} {mg : Str → Option Value} {fa : Addr} (X : K.In h) (G : h.Ns mainGlobals mg) (hfa : mg "law" = some (.ref fa)) {t9 t12 : Tok}
    {f0 f1 f2 f3 f4 f5 f6 f7 f8 f9 f10 f11 f12 f13 f14 f15 f16 f17 f18 f19 f20 f21 f22 f23 : Addr} {od0 an0 od1 an1 od2 an2 od3 an3 od4 an4 od5 an5 od6 an6 od7 an7 od8 an8 od9 an9 od10 an10 od11 an11 od12 an12 od13 an13 od14 an14 od15 an15 od16 an16 od17 an17 od18 an18 od19 an19 od20 an20 od21 an21 od22 an22 od23 an23 : Option Addr} {sl0 sl1 sl2 sl3 sl4 sl5 sl6 sl7 sl8 sl9 sl10 sl11 sl12 sl13 sl14 sl15 sl16 sl17 sl18 sl19 sl20 sl21 sl22 sl23 : Array (Option Value)}
    {oc0 kV0 dc0 pm0 cd0 ct0 oc1 kV1 dc1 pm1 cd1 ct1 oc2 kV2 dc2 pm2 cd2 ct2 oc3 kV3 dc3 pm3 cd3 ct3 oc4 kV4 dc4 pm4 cd4 ct4 oc5 kV5 dc5 pm5 cd5 ct5 oc6 kV6 dc6 pm6 cd6 ct6 oc7 kV7 dc7 pm7 cd7 ct7 oc8 kV8 dc8 pm8 cd8 ct8 oc9 kV9 dc9 pm9 cd9 ct9 oc10 kV10 dc10 pm10 cd10 ct10 oc11 kV11 dc11 pm11 cd11 ct11 oc12 kV12 dc12 pm12 cd12 ct12 oc13 kV13 dc13 pm13 cd13 ct13 oc14 kV14 dc14 pm14 cd14 ct14 oc15 kV15 dc15 pm15 cd15 ct15 oc16 kV16 dc16 pm16 cd16 ct16 oc17 kV17 dc17 pm17 cd17 ct17 oc18 kV18 dc18 pm18 cd18 ct18 oc19 kV19 dc19 pm19 cd19 ct19 oc20 kV20 dc20 pm20 cd20 ct20 oc21 kV21 dc21 pm21 cd21 ct21 oc22 kV22 dc22 pm22 cd22 ct22 oc23 kV23 dc23 pm23 cd23 ct23 : Value}
    (a0 : PySem.W.nsIn K mainGlobals "is_int" = some (some (.ref f0)))
    (l0 : K.lookup f0 = some ⟨oc0, od0, .func (PySem.W.fnOf "is_int" "is_int" (defArgs sIsInt) (defBody sIsInt) (defScope sIsInt) .none kV0 dc0 pm0 an0 cd0 ct0), sl0⟩)
    (c0 : PySem.W.codeIn K cd0 "is_int" = true) (k0 : PySem.W.keepIn K (.ref f0) = true)
    (a1 : PySem.W.nsIn K mainGlobals "is_from" = some (some (.ref f1)))
    (l1 : K.lookup f1 = some ⟨oc1, od1, .func (PySem.W.fnOf "is_from" "is_from" (defArgs sIsFrom) (defBody sIsFrom) (defScope sIsFrom) .none kV1 dc1 pm1 an1 cd1 ct1), sl1⟩)
    (c1 : PySem.W.codeIn K cd1 "is_from" = true) (k1 : PySem.W.keepIn K (.ref f1) = true)
    (a2 : PySem.W.nsIn K mainGlobals "is_wall" = some (some (.ref f2)))
    (l2 : K.lookup f2 = some ⟨oc2, od2, .func (PySem.W.fnOf "is_wall" "is_wall" (defArgs sIsWall) (defBody sIsWall) (defScope sIsWall) .none kV2 dc2 pm2 an2 cd2 ct2), sl2⟩)
    (c2 : PySem.W.codeIn K cd2 "is_wall" = true) (k2 : PySem.W.keepIn K (.ref f2) = true)
    (a3 : PySem.W.nsIn K mainGlobals "need_yard" = some (some (.ref f3)))
    (l3 : K.lookup f3 = some ⟨oc3, od3, .func (PySem.W.fnOf "need_yard" "need_yard" (defArgs sNeedY) (defBody sNeedY) (defScope sNeedY) .none kV3 dc3 pm3 an3 cd3 ct3), sl3⟩)
    (c3 : PySem.W.codeIn K cd3 "need_yard" = true) (k3 : PySem.W.keepIn K (.ref f3) = true)
    (a4 : PySem.W.nsIn K mainGlobals "sides_of" = some (some (.ref f4)))
    (l4 : K.lookup f4 = some ⟨oc4, od4, .func (PySem.W.fnOf "sides_of" "sides_of" (defArgs sSides) (defBody sSides) (defScope sSides) .none kV4 dc4 pm4 an4 cd4 ct4), sl4⟩)
    (c4 : PySem.W.codeIn K cd4 "sides_of" = true) (k4 : PySem.W.keepIn K (.ref f4) = true)
    (a5 : PySem.W.nsIn K mainGlobals "every" = some (some (.ref f5)))
    (l5 : K.lookup f5 = some ⟨oc5, od5, .func (PySem.W.fnOf "every" "every" (defArgs sEvery) (defBody sEvery) (defScope sEvery) .none kV5 dc5 pm5 an5 cd5 ct5), sl5⟩)
    (c5 : PySem.W.codeIn K cd5 "every" = true) (k5 : PySem.W.keepIn K (.ref f5) = true)
    (a6 : PySem.W.nsIn K mainGlobals "reached" = some (some (.ref f6)))
    (l6 : K.lookup f6 = some ⟨oc6, od6, .func (PySem.W.fnOf "reached" "reached" (defArgs sReached) (defBody sReached) (defScope sReached) .none kV6 dc6 pm6 an6 cd6 ct6), sl6⟩)
    (c6 : PySem.W.codeIn K cd6 "reached" = true) (k6 : PySem.W.keepIn K (.ref f6) = true)
    (a7 : PySem.W.nsIn K mainGlobals "need_order" = some (some (.ref f7)))
    (l7 : K.lookup f7 = some ⟨oc7, od7, .func (PySem.W.fnOf "need_order" "need_order" (defArgs sNeedO) (defBody sNeedO) (defScope sNeedO) .none kV7 dc7 pm7 an7 cd7 ct7), sl7⟩)
    (c7 : PySem.W.codeIn K cd7 "need_order" = true) (k7 : PySem.W.keepIn K (.ref f7) = true)
    (a8 : PySem.W.nsIn K mainGlobals "is_ready" = some (some (.ref f8)))
    (l8 : K.lookup f8 = some ⟨oc8, od8, .func (PySem.W.fnOf "is_ready" "is_ready" (defArgs sReady) (defBody sReady) (defScope sReady) .none kV8 dc8 pm8 an8 cd8 ct8), sl8⟩)
    (c8 : PySem.W.codeIn K cd8 "is_ready" = true) (k8 : PySem.W.keepIn K (.ref f8) = true)
    (a9 : PySem.W.nsIn K mainGlobals "last_wrong" = some (some (.ref f9)))
    (l9 : K.lookup f9 = some ⟨oc9, od9, .func (PySem.W.fnOf "last_wrong" "last_wrong" (defArgs sWrong) (defBody sWrong) (defScope sWrong) .none kV9 dc9 pm9 an9 cd9 ct9), sl9⟩)
    (c9 : PySem.W.codeIn K cd9 "last_wrong" = true) (k9 : PySem.W.keepIn K (.ref f9) = true)
    (a10 : PySem.W.nsIn K mainGlobals "is_order" = some (some (.ref f10)))
    (l10 : K.lookup f10 = some ⟨oc10, od10, .func (PySem.W.fnOf "is_order" "is_order" (defArgs sIsOrd) (defBody sIsOrd) (defScope sIsOrd) .none kV10 dc10 pm10 an10 cd10 ct10), sl10⟩)
    (c10 : PySem.W.codeIn K cd10 "is_order" = true) (k10 : PySem.W.keepIn K (.ref f10) = true)
    (a11 : PySem.W.nsIn K mainGlobals "has_order" = some (some (.ref f11)))
    (l11 : K.lookup f11 = some ⟨oc11, od11, .func (PySem.W.fnOf "has_order" "has_order" (defArgs sHas) (defBody sHas) (defScope sHas) .none kV11 dc11 pm11 an11 cd11 ct11), sl11⟩)
    (c11 : PySem.W.codeIn K cd11 "has_order" = true) (k11 : PySem.W.keepIn K (.ref f11) = true)
    (a12 : PySem.W.nsIn K mainGlobals "is_growth" = some (some (.ref f12)))
    (l12 : K.lookup f12 = some ⟨oc12, od12, .func (PySem.W.fnOf "is_growth" "is_growth" (defArgs sGrowth) (defBody sGrowth) (defScope sGrowth) .none kV12 dc12 pm12 an12 cd12 ct12), sl12⟩)
    (c12 : PySem.W.codeIn K cd12 "is_growth" = true) (k12 : PySem.W.keepIn K (.ref f12) = true)
    (a13 : PySem.W.nsIn K mainGlobals "first_order" = some (some (.ref f13)))
    (l13 : K.lookup f13 = some ⟨oc13, od13, .func (PySem.W.fnOf "first_order" "first_order" (defArgs sFirst) (defBody sFirst) (defScope sFirst) .none kV13 dc13 pm13 an13 cd13 ct13), sl13⟩)
    (c13 : PySem.W.codeIn K cd13 "first_order" = true) (k13 : PySem.W.keepIn K (.ref f13) = true)
    (a14 : PySem.W.nsIn K mainGlobals "last_order" = some (some (.ref f14)))
    (l14 : K.lookup f14 = some ⟨oc14, od14, .func (PySem.W.fnOf "last_order" "last_order" (defArgs sLast) (defBody sLast) (defScope sLast) .none kV14 dc14 pm14 an14 cd14 ct14), sl14⟩)
    (c14 : PySem.W.codeIn K cd14 "last_order" = true) (k14 : PySem.W.keepIn K (.ref f14) = true)
    (a15 : PySem.W.nsIn K mainGlobals "_law_taken" = some (some (.ref f15)))
    (l15 : K.lookup f15 = some ⟨oc15, od15, .func (PySem.W.fnOf "_law_taken" "_law_taken" (defArgs sTaken) (defBody sTaken) (defScope sTaken) .none kV15 dc15 pm15 an15 cd15 ct15), sl15⟩)
    (c15 : PySem.W.codeIn K cd15 "_law_taken" = true) (k15 : PySem.W.keepIn K (.ref f15) = true)
    (a16 : PySem.W.nsIn K mainGlobals "_law_alike" = some (some (.ref f16)))
    (l16 : K.lookup f16 = some ⟨oc16, od16, .func (PySem.W.fnOf "_law_alike" "_law_alike" (defArgs sAlike) (defBody sAlike) (defScope sAlike) .none kV16 dc16 pm16 an16 cd16 ct16), sl16⟩)
    (c16 : PySem.W.codeIn K cd16 "_law_alike" = true) (k16 : PySem.W.keepIn K (.ref f16) = true)
    (a17 : PySem.W.nsIn K mainGlobals "_law_is" = some (some (.ref f17)))
    (l17 : K.lookup f17 = some ⟨oc17, od17, .func (PySem.W.fnOf "_law_is" "_law_is" (defArgs sIs) (defBody sIs) (defScope sIs) .none kV17 dc17 pm17 an17 cd17 ct17), sl17⟩)
    (c17 : PySem.W.codeIn K cd17 "_law_is" = true) (k17 : PySem.W.keepIn K (.ref f17) = true)
    (a18 : PySem.W.nsIn K mainGlobals "_law_yard" = some (some (.ref f18)))
    (l18 : K.lookup f18 = some ⟨oc18, od18, .func (PySem.W.fnOf "_law_yard" "_law_yard" (defArgs sYard) (defBody sYard) (defScope sYard) .none kV18 dc18 pm18 an18 cd18 ct18), sl18⟩)
    (c18 : PySem.W.codeIn K cd18 "_law_yard" = true) (k18 : PySem.W.keepIn K (.ref f18) = true)
    (a19 : PySem.W.nsIn K mainGlobals "_law_sides" = some (some (.ref f19)))
    (l19 : K.lookup f19 = some ⟨oc19, od19, .func (PySem.W.fnOf "_law_sides" "_law_sides" (defArgs sLSides) (defBody sLSides) (defScope sLSides) .none kV19 dc19 pm19 an19 cd19 ct19), sl19⟩)
    (c19 : PySem.W.codeIn K cd19 "_law_sides" = true) (k19 : PySem.W.keepIn K (.ref f19) = true)
    (a20 : PySem.W.nsIn K mainGlobals "_law_come" = some (some (.ref f20)))
    (l20 : K.lookup f20 = some ⟨oc20, od20, .func (PySem.W.fnOf "_law_come" "_law_come" (defArgs sCome) (defBody sCome) (defScope sCome) .none kV20 dc20 pm20 an20 cd20 ct20), sl20⟩)
    (c20 : PySem.W.codeIn K cd20 "_law_come" = true) (k20 : PySem.W.keepIn K (.ref f20) = true)
    (a21 : PySem.W.nsIn K mainGlobals "_law_grows" = some (some (.ref f21)))
    (l21 : K.lookup f21 = some ⟨oc21, od21, .func (PySem.W.fnOf "_law_grows" "_law_grows" (defArgs sGrows) (defBody sGrows) (defScope sGrows) .none kV21 dc21 pm21 an21 cd21 ct21), sl21⟩)
    (c21 : PySem.W.codeIn K cd21 "_law_grows" = true) (k21 : PySem.W.keepIn K (.ref f21) = true)
    (a22 : PySem.W.nsIn K mainGlobals "_law_words" = some (some (.ref f22)))
    (l22 : K.lookup f22 = some ⟨oc22, od22, .func (PySem.W.fnOf "_law_words" "_law_words" (defArgs sWords) (defBody sWords) (defScope sWords) .none kV22 dc22 pm22 an22 cd22 ct22), sl22⟩)
    (c22 : PySem.W.codeIn K cd22 "_law_words" = true) (k22 : PySem.W.keepIn K (.ref f22) = true)
    (a23 : PySem.W.nsIn K mainGlobals "law" = some (some (.ref f23)))
    (l23 : K.lookup f23 = some ⟨oc23, od23, .func (PySem.W.fnOf "law" "law" (defArgs sLaw) (defBody sLaw) (defScope sLaw) .none kV23 dc23 pm23 an23 cd23 ct23), sl23⟩)
    (c23 : PySem.W.codeIn K cd23 "law" = true) (k23 : PySem.W.keepIn K (.ref f23) = true)
    (z_isinstance : PySem.W.nsIn K mainGlobals "isinstance" = some none)
    (z_int : PySem.W.nsIn K mainGlobals "int" = some none)
    (z_bool : PySem.W.nsIn K mainGlobals "bool" = some none)
    (z_tuple : PySem.W.nsIn K mainGlobals "tuple" = some none)
    (z_list : PySem.W.nsIn K mainGlobals "list" = some none)
    (z_str : PySem.W.nsIn K mainGlobals "str" = some none)
    (z_len : PySem.W.nsIn K mainGlobals "len" = some none)
    (z_range : PySem.W.nsIn K mainGlobals "range" = some none)
    (z_enumerate : PySem.W.nsIn K mainGlobals "enumerate" = some none)
    (z_sorted : PySem.W.nsIn K mainGlobals "sorted" = some none)
    (z_any : PySem.W.nsIn K mainGlobals "any" = some none)
    (z_all : PySem.W.nsIn K mainGlobals "all" = some none)
    (m9 : PySem.W.nsIn K mainGlobals "MOST_ROOMS" = some (some (.int 9 t9))) (m12 : PySem.W.nsIn K mainGlobals "MOST_WALLS" = some (some (.int 12 t12))) :
    ∃ fd : FuncData, (∀ (s : Shared) (v : Value), BindsTo s fd ⟨[v], []⟩ [("_law_script", v)]) ∧ ∀ base : Heap, K.In base → base.Ns mainGlobals mg → FnOk l.prog w K mg base CX0 6 fa fd ["_law_script"] (spLaw K) := by
  have e := hfa.symm.trans (PySem.W.mg_of X G a23)
  cases e
  have T : Txt mg := ⟨PySem.W.mg_none_of X G z_isinstance, PySem.W.mg_none_of X G z_int, PySem.W.mg_none_of X G z_bool, PySem.W.mg_none_of X G z_tuple, PySem.W.mg_none_of X G z_list, PySem.W.mg_none_of X G z_str, PySem.W.mg_none_of X G z_len, PySem.W.mg_none_of X G z_range, PySem.W.mg_none_of X G z_enumerate, PySem.W.mg_none_of X G z_sorted, PySem.W.mg_none_of X G z_any, PySem.W.mg_none_of X G z_all⟩
  have F0 := fun_mk (st := sIsInt) l0 c0 k0
  have D0 : Df K mg "is_int" sIsInt ["value"] f0 _ := ⟨F0, F0.binds (ps := ["value"]) fun _ _ _ _ _ _ us hl => match us, hl with | [_], _ => rfl, PySem.W.mg_of X G a0⟩
  have F1 := fun_mk (st := sIsFrom) l1 c1 k1
  have D1 : Df K mg "is_from" sIsFrom ["value", "least", "most"] f1 _ := ⟨F1, F1.binds (ps := ["value", "least", "most"]) fun _ _ _ _ _ _ us hl => match us, hl with | [_, _, _], _ => rfl, PySem.W.mg_of X G a1⟩
  have F2 := fun_mk (st := sIsWall) l2 c2 k2
  have D2 : Df K mg "is_wall" sIsWall ["value", "many"] f2 _ := ⟨F2, F2.binds (ps := ["value", "many"]) fun _ _ _ _ _ _ us hl => match us, hl with | [_, _], _ => rfl, PySem.W.mg_of X G a2⟩
  have F3 := fun_mk (st := sNeedY) l3 c3 k3
  have D3 : Df K mg "need_yard" sNeedY ["value"] f3 _ := ⟨F3, F3.binds (ps := ["value"]) fun _ _ _ _ _ _ us hl => match us, hl with | [_], _ => rfl, PySem.W.mg_of X G a3⟩
  have F4 := fun_mk (st := sSides) l4 c4 k4
  have D4 : Df K mg "sides_of" sSides ["wall"] f4 _ := ⟨F4, F4.binds (ps := ["wall"]) fun _ _ _ _ _ _ us hl => match us, hl with | [_], _ => rfl, PySem.W.mg_of X G a4⟩
  have F5 := fun_mk (st := sEvery) l5 c5 k5
  have D5 : Df K mg "every" sEvery ["yard"] f5 _ := ⟨F5, F5.binds (ps := ["yard"]) fun _ _ _ _ _ _ us hl => match us, hl with | [_], _ => rfl, PySem.W.mg_of X G a5⟩
  have F6 := fun_mk (st := sReached) l6 c6 k6
  have D6 : Df K mg "reached" sReached ["yard", "lot"] f6 _ := ⟨F6, F6.binds (ps := ["yard", "lot"]) fun _ _ _ _ _ _ us hl => match us, hl with | [_, _], _ => rfl, PySem.W.mg_of X G a6⟩
  have F7 := fun_mk (st := sNeedO) l7 c7 k7
  have D7 : Df K mg "need_order" sNeedO ["yard", "value"] f7 _ := ⟨F7, F7.binds (ps := ["yard", "value"]) fun _ _ _ _ _ _ us hl => match us, hl with | [_, _], _ => rfl, PySem.W.mg_of X G a7⟩
  have F8 := fun_mk (st := sReady) l8 c8 k8
  have D8 : Df K mg "is_ready" sReady ["yard", "lot", "number"] f8 _ := ⟨F8, F8.binds (ps := ["yard", "lot", "number"]) fun _ _ _ _ _ _ us hl => match us, hl with | [_, _, _], _ => rfl, PySem.W.mg_of X G a8⟩
  have F9 := fun_mk (st := sWrong) l9 c9 k9
  have D9 : Df K mg "last_wrong" sWrong ["yard", "order"] f9 _ := ⟨F9, F9.binds (ps := ["yard", "order"]) fun _ _ _ _ _ _ us hl => match us, hl with | [_, _], _ => rfl, PySem.W.mg_of X G a9⟩
  have F10 := fun_mk (st := sIsOrd) l10 c10 k10
  have D10 : Df K mg "is_order" sIsOrd ["yard", "order"] f10 _ := ⟨F10, F10.binds (ps := ["yard", "order"]) fun _ _ _ _ _ _ us hl => match us, hl with | [_, _], _ => rfl, PySem.W.mg_of X G a10⟩
  have F11 := fun_mk (st := sHas) l11 c11 k11
  have D11 : Df K mg "has_order" sHas ["yard"] f11 _ := ⟨F11, F11.binds (ps := ["yard"]) fun _ _ _ _ _ _ us hl => match us, hl with | [_], _ => rfl, PySem.W.mg_of X G a11⟩
  have F12 := fun_mk (st := sGrowth) l12 c12 k12
  have D12 : Df K mg "is_growth" sGrowth ["yard", "lot"] f12 _ := ⟨F12, F12.binds (ps := ["yard", "lot"]) fun _ _ _ _ _ _ us hl => match us, hl with | [_, _], _ => rfl, PySem.W.mg_of X G a12⟩
  have F13 := fun_mk (st := sFirst) l13 c13 k13
  have D13 : Df K mg "first_order" sFirst ["yard"] f13 _ := ⟨F13, F13.binds (ps := ["yard"]) fun _ _ _ _ _ _ us hl => match us, hl with | [_], _ => rfl, PySem.W.mg_of X G a13⟩
  have F14 := fun_mk (st := sLast) l14 c14 k14
  have D14 : Df K mg "last_order" sLast ["yard"] f14 _ := ⟨F14, F14.binds (ps := ["yard"]) fun _ _ _ _ _ _ us hl => match us, hl with | [_], _ => rfl, PySem.W.mg_of X G a14⟩
  have F15 := fun_mk (st := sTaken) l15 c15 k15
  have D15 : Df K mg "_law_taken" sTaken ["_law_row", "_law_many"] f15 _ := ⟨F15, F15.binds (ps := ["_law_row", "_law_many"]) fun _ _ _ _ _ _ us hl => match us, hl with | [_, _], _ => rfl, PySem.W.mg_of X G a15⟩
  have F16 := fun_mk (st := sAlike) l16 c16 k16
  have D16 : Df K mg "_law_alike" sAlike ["_law_found", "_law_due"] f16 _ := ⟨F16, F16.binds (ps := ["_law_found", "_law_due"]) fun _ _ _ _ _ _ us hl => match us, hl with | [_, _], _ => rfl, PySem.W.mg_of X G a16⟩
  have F17 := fun_mk (st := sIs) l17 c17 k17
  have D17 : Df K mg "_law_is" sIs ["_law_found", "_law_due"] f17 _ := ⟨F17, F17.binds (ps := ["_law_found", "_law_due"]) fun _ _ _ _ _ _ us hl => match us, hl with | [_, _], _ => rfl, PySem.W.mg_of X G a17⟩
  have F18 := fun_mk (st := sYard) l18 c18 k18
  have D18 : Df K mg "_law_yard" sYard ["_law_row", "_law_rooms", "_law_shuts", "_law_either"] f18 _ := ⟨F18, F18.binds (ps := ["_law_row", "_law_rooms", "_law_shuts", "_law_either"]) fun _ _ _ _ _ _ us hl => match us, hl with | [_, _, _, _], _ => rfl, PySem.W.mg_of X G a18⟩
  have F19 := fun_mk (st := sLSides) l19 c19 k19
  have D19 : Df K mg "_law_sides" sLSides ["_law_shut"] f19 _ := ⟨F19, F19.binds (ps := ["_law_shut"]) fun _ _ _ _ _ _ us hl => match us, hl with | [_], _ => rfl, PySem.W.mg_of X G a19⟩
  have F20 := fun_mk (st := sCome) l20 c20 k20
  have D20 : Df K mg "_law_come" sCome ["_law_yard_here", "_law_lot"] f20 _ := ⟨F20, F20.binds (ps := ["_law_yard_here", "_law_lot"]) fun _ _ _ _ _ _ us hl => match us, hl with | [_, _], _ => rfl, PySem.W.mg_of X G a20⟩
  have F21 := fun_mk (st := sGrows) l21 c21 k21
  have D21 : Df K mg "_law_grows" sGrows ["_law_yard_here", "_law_order"] f21 _ := ⟨F21, F21.binds (ps := ["_law_yard_here", "_law_order"]) fun _ _ _ _ _ _ us hl => match us, hl with | [_, _], _ => rfl, PySem.W.mg_of X G a21⟩
  have F22 := fun_mk (st := sWords) l22 c22 k22
  have D22 : Df K mg "_law_words" sWords ["_law_yard_here"] f22 _ := ⟨F22, F22.binds (ps := ["_law_yard_here"]) fun _ _ _ _ _ _ us hl => match us, hl with | [_], _ => rfl, PySem.W.mg_of X G a22⟩
  have F23 := fun_mk (st := sLaw) l23 c23 k23
  refine ⟨PySem.W.fnOf "law" "law" (defArgs sLaw) (defBody sLaw) (defScope sLaw) .none kV23 dc23 pm23 an23 cd23 ct23, fun s v => .of_eq rfl, fun base _ _ => ?_⟩
  have Gfrom := ok_isFrom (P := l.prog) (w := w) (base := base) F1 D0 T
  have Gwall := ok_isWall F2 D1 Gfrom T
  have Gneed := ok_needY F3 D1 Gfrom D2 Gwall (PySem.W.mg_of X G m9) (PySem.W.mg_of X G m12) T
  have Greach := ok_reached (P := l.prog) (w := w) (base := base) F6 D4 T
  have Gcome := ok_come (P := l.prog) (w := w) (base := base) F20 D19 T
  have Gready := ok_ready F8 D4 D6 Greach T
  have Ggrow := ok_growth F12 D4 D6 Greach T
  have Ghas := ok_has F11 D4 D6 Greach D5 D3 Gneed T
  have Gfirst := ok_first F13 D12 Ggrow D8 Gready D5 D3 Gneed T
  have Glast := ok_last F14 D12 Ggrow D8 Gready D5 D3 Gneed T
  have GneedO := ok_needO (P := l.prog) (w := w) (base := base) F7 D5 T
  have Gwrong := ok_wrong F9 D8 Gready T
  have Gord := ok_isOrd F10 D3 Gneed D7 GneedO D9 Gwrong
  have Ggrows := ok_grows F21 D19 D20 Gcome T
  have Gyard := ok_yard (P := l.prog) (w := w) (base := base) F18 D15 T
  have Gwords := ok_words F22 D19 D20 Gcome T
  exact ok_law F23 D11 Ghas D13 (order_ans Gfirst) D14 (order_ans Glast) D18 Gyard D22 Gwords D17 D16 D20 Gcome D19 D21 Ggrows D10 Gord T
end K02

/-! K02Top -/
open PySem PySem.W PyProof.Rows
set_option maxRecDepth 100000 in
set_option maxHeartbeats 0 in
theorem PySem.Challenge.cw_walledin_k02_whole_first_orders_holds : PySem.Challenge.rw_walledin_k02_whole_first_orders.Holds := by
  w_on; o_law; k_head; (case hw => w_witness2)
  k_fill
  refine L2.walk_of (l := PySem.Challenge.rw_walledin_k02_whole_first_orders) (n := 63) (k := 6) (x := "_law_script") (CX := fun _ => L2.CX0) (sp := fun w => K02.spLaw _) rfl (by decide) rfl ⟨rfl, by decide, by decide⟩ (fun w h Y => PySem.W.kIn_of Y) ?F (fun _ _ a ns hl _ hS => ⟨a, ns, rfl, hS, hl, fun _ => rfl⟩) (fun _ _ _ _ _ h => h)
  case F =>
    intro w mg fa h KX G hmg
    refine' K02.all_mk KX G hmg ?a0 ?l0 ?c0 ?k0 ?a1 ?l1 ?c1 ?k1 ?a2 ?l2 ?c2 ?k2 ?a3 ?l3 ?c3 ?k3 ?a4 ?l4 ?c4 ?k4 ?a5 ?l5 ?c5 ?k5 ?a6 ?l6 ?c6 ?k6 ?a7 ?l7 ?c7 ?k7 ?a8 ?l8 ?c8 ?k8 ?a9 ?l9 ?c9 ?k9 ?a10 ?l10 ?c10 ?k10 ?a11 ?l11 ?c11 ?k11 ?a12 ?l12 ?c12 ?k12 ?a13 ?l13 ?c13 ?k13 ?a14 ?l14 ?c14 ?k14 ?a15 ?l15 ?c15 ?k15 ?a16 ?l16 ?c16 ?k16 ?a17 ?l17 ?c17 ?k17 ?a18 ?l18 ?c18 ?k18 ?a19 ?l19 ?c19 ?k19 ?a20 ?l20 ?c20 ?k20 ?a21 ?l21 ?c21 ?k21 ?a22 ?l22 ?c22 ?k22 ?a23 ?l23 ?c23 ?k23 ?z_isinstance ?z_int ?z_bool ?z_tuple ?z_list ?z_str ?z_len ?z_range ?z_enumerate ?z_sorted ?z_any ?z_all ?m9 ?m12
    (case a0 => k_is)
    (case l0 => k_is)
    (case c0 => k_is)
    (case k0 => k_is)
    (case a1 => k_is)
    (case l1 => k_is)
    (case c1 => k_is)
    (case k1 => k_is)
    (case a2 => k_is)
    (case l2 => k_is)
    (case c2 => k_is)
    (case k2 => k_is)
    (case a3 => k_is)
    (case l3 => k_is)
    (case c3 => k_is)
    (case k3 => k_is)
    (case a4 => k_is)
    (case l4 => k_is)
    (case c4 => k_is)
    (case k4 => k_is)
    (case a5 => k_is)
    (case l5 => k_is)
    (case c5 => k_is)
    (case k5 => k_is)
    (case a6 => k_is)
    (case l6 => k_is)
    (case c6 => k_is)
    (case k6 => k_is)
    (case a7 => k_is)
    (case l7 => k_is)
    (case c7 => k_is)
    (case k7 => k_is)
    (case a8 => k_is)
    (case l8 => k_is)
    (case c8 => k_is)
    (case k8 => k_is)
    (case a9 => k_is)
    (case l9 => k_is)
    (case c9 => k_is)
    (case k9 => k_is)
    (case a10 => k_is)
    (case l10 => k_is)
    (case c10 => k_is)
    (case k10 => k_is)
    (case a11 => k_is)
    (case l11 => k_is)
    (case c11 => k_is)
    (case k11 => k_is)
    (case a12 => k_is)
    (case l12 => k_is)
    (case c12 => k_is)
    (case k12 => k_is)
    (case a13 => k_is)
    (case l13 => k_is)
    (case c13 => k_is)
    (case k13 => k_is)
    (case a14 => k_is)
    (case l14 => k_is)
    (case c14 => k_is)
    (case k14 => k_is)
    (case a15 => k_is)
    (case l15 => k_is)
    (case c15 => k_is)
    (case k15 => k_is)
    (case a16 => k_is)
    (case l16 => k_is)
    (case c16 => k_is)
    (case k16 => k_is)
    (case a17 => k_is)
    (case l17 => k_is)
    (case c17 => k_is)
    (case k17 => k_is)
    (case a18 => k_is)
    (case l18 => k_is)
    (case c18 => k_is)
    (case k18 => k_is)
    (case a19 => k_is)
    (case l19 => k_is)
    (case c19 => k_is)
    (case k19 => k_is)
    (case a20 => k_is)
    (case l20 => k_is)
    (case c20 => k_is)
    (case k20 => k_is)
    (case a21 => k_is)
    (case l21 => k_is)
    (case c21 => k_is)
    (case k21 => k_is)
    (case a22 => k_is)
    (case l22 => k_is)
    (case c22 => k_is)
    (case k22 => k_is)
    (case a23 => k_is)
    (case l23 => k_is)
    (case c23 => k_is)
    (case k23 => k_is)
    (case z_isinstance => k_is)
    (case z_int => k_is)
    (case z_bool => k_is)
    (case z_tuple => k_is)
    (case z_list => k_is)
    (case z_str => k_is)
    (case z_len => k_is)
    (case z_range => k_is)
    (case z_enumerate => k_is)
    (case z_sorted => k_is)
    (case z_any => k_is)
    (case z_all => k_is)
    (case m9 => k_is)
    (case m12 => k_is)
